import PyProof.Rows.All
import Wide.All
import OpenK.AllK
import Wide.FinOn
import PyProof.ReprReads
import HandS.ForMost
import HandS.ForExc
import HandS.More
import HandS.IsInst
import HandS.Defaults
import HandS.Lambda
import HandS.TupAny
import HandS.Style
import HandS.DictComp
import KE.DataEq
import HandS.TupLe
import HandS.ExcInit
import HandS.ExcField
import KE.KExcSuper
import KE.KSuper
import HandS.Star
import KE.GoesMore
import KE.KUnpack
import PyProof.DictUpdate
import HandS.ExcOwn
import HandS.ExcIs
import HandS.ExcValue
import HandS.Zip
import HandS.SetKeys
import HandS.EndBits
import HandS.HeadEnd
import HandS.HeadHook2
import HandS.HeadHook3
import HandS.EndTab
import HandS.Head0
import HandS.Head1
import HandS.Head2
import HandS.HeadHook4
import HandS.HeadHook1
import Wide.Once
import PySem.Challenge.RW_formrules_k08_errors_made_and_bases
set_option Elab.async false
set_option linter.all false
/-! PyA: data, a small language of programs over data, what they compute. No heap here. -/
namespace Py
open PySem (Str)
/-- keys of dicts -/
inductive Ky where
  | i (n : Int)
  | s (x : Str)
  deriving DecidableEq, Inhabited
/-- a value as a tree -/
inductive D where
  | non
  | bl (b : Bool)
  | int (i : Int)
  | str (s : Str)
  | tup (xs : List D)
  | lst (xs : List D)
  | dic (ks : List Ky) (vs : List D)
  | ins (c : Nat) (fs : List Str) (vs : List D)
  | scr (ns : List Int)
  /-- an exception: its class, its fields -/
  | exc (c : Nat) (fs : List Str) (vs : List D)
  deriving Inhabited
/-- the state of the law's draws -/
structure Drw where
  wide : List Int
  cells : List Int
  rest : Int
  turn : Int
  deriving Inhabited
/-- what a slot owns: it alone names the object -/
inductive Ob where
  | lst (xs : List D)
  | dic (ks : List Ky) (vs : List D)
  | ins (c : Nat) (fs : List Str) (vs : List D)
  | drw (s : Drw)
  deriving Inhabited
/-- io: the object is the caller's -/
inductive Slot where
  | un
  | val (d : D)
  | own (o : Ob) (io : Bool)
  deriving Inhabited
abbrev Env := List Slot
inductive BOp where | add | sub | mul | fdiv | mod | pow
  deriving DecidableEq
inductive COp where | eq | ne | lt | le | gt | ge | is | isnot | isin | notin
  deriving DecidableEq
/-- builtin functions and types, called with values -/
inductive BI where | len | all | any | list | tuple | str | int | repr | abs | min | max | sum | range | lenset | sorted
  deriving DecidableEq
/-- builtin types that isinstance asks -/
inductive Ty where | int | bool | str | tuple | list | dict
  deriving DecidableEq
/-- methods of builtin types that change nothing -/
inductive BM where | get | index | count | items | values | keys | join | split | upper
  deriving DecidableEq
inductive Pat where
  | name (i : Nat)
  | tup (ps : List Pat)
  deriving Inhabited
mutual
inductive E where
  | stk
  /-- draw['rest'], draw['turn'] -/
  | drI (i : Nat) (k : Str)
  /-- draw['wide'] != [] -/
  | drW (i : Nat)
  /-- draw['wide'].pop(0) -/
  | drP (i : Nat)
  | lit (d : D)
  | var (i : Nat)
  | glob (g : Nat)
  | tup (es : List E)
  | lst (es : List E)
  | dic (ks : List Str) (es : List E)
  | bin (op : BOp) (a b : E)
  | neg (a : E)
  | cmp (op : COp) (a b : E)
  | chain (op op' : COp) (a b c : E)
  | and (a b : E)
  | or (a b : E)
  | not (a : E)
  | ifE (c a b : E)
  | idx (a b : E)
  | slice (a : E) (lo hi : Option E)
  | rev (a : E)
  | attr (a : E) (f : Str)
  | call (f : Nat) (as : List Ar)
  /-- the arguments in another order than the parameters -/
  | callP (f : Nat) (pm : List Nat) (as : List Ar)
  /-- the last argument is a new dict -/
  | callN (f : Nat) (es : List E)
  | meth (o : E) (m : Str) (es : List E)
  | make (c : Nat) (es : List E)
  /-- a new exception -/
  | mkx (c : Nat) (es : List E)
  | bi (b : BI) (es : List E)
  | isi (e : E) (t : Ty)
  | isc (e : E) (c : Nat)
  /-- len(set(e)) -/
  | lns (e : E)
  /-- (*a, b), [*a, b]: which are starred -/
  | tupS (fl : List Bool) (es : List E)
  | lstS (fl : List Bool) (es : List E)
  /-- isinstance of it, asked of ValueError -/
  | isv (e : E)
  /-- x.setdefault(k, v) on a slot's own dict -/
  | sdf (i : Nat) (k v : E)
  /-- what _law_error makes of a lambda -/
  | lerr (e : E)
  | bm (m : BM) (o : E) (es : List E)
  | lc (p : Pat) (it : It) (cs : List E) (e : E) (own : List Nat)
  | dc (p : Pat) (it : It) (k v : E) (own : List Nat)
inductive It where
  | of (e : E)
  | rng (es : List E)
  | enm (e : E)
  | zip (es : List E)
inductive Ar where
  | v (e : E)
  | io (i : Nat)
end
inductive S where
  | stk
  | skip
  | expr (e : E)
  | set (i : Nat) (e : E)
  | setp (p : Pat) (e : E)
  | par (is : List Nat) (es : List E)
  | aug (i : Nat) (op : BOp) (e : E)
  | app (i : Nat) (e : E)
  | ext (i : Nat) (e : E)
  | upd (i : Nat) (e : E)
  | seti (i : Nat) (k e : E)
  | setf (i : Nat) (f : Str) (e : E)
  | pop (p : Pat) (i : Nat)
  | ret (e : E)
  | iff (c : E) (a b : List S)
  | for_ (p : Pat) (it : It) (body : List S)
  | whl (c : E) (body : List S)
  | brk
  | cont
  | rse (c : Nat) (es : List E)
  /-- draw[k] = e -/
  | drS (i : Nat) (k : Str) (e : E)
  /-- return {'wide': the list of slot i, 'cells': e, 'rest': 0, 'turn': 0} -/
  | retD (i : Nat) (e : E)
  /-- for p in draw['cells'] -/
  | forC (p : Pat) (i : Nat) (body : List S)
/-- one def -/
structure Fn where
  slots : Nat
  pars : List Bool
  body : List S
/-! ### operations on data -/
def lim : Nat := 16777216
def kyOf : D → Option Ky
  | .int n => some (.i n)
  | .str x => some (.s x)
  | _ => none
def dOf : Ky → D
  | .i n => .int n
  | .s x => .str x
/-- the items one by one, as far as both go; then the lengths -/
def eqL (f : D → D → Option Bool) : List D → List D → Option Bool
  | [], [] => some true
  | [], _ :: _ => some false
  | _ :: _, [] => some false
  | x :: xs, y :: ys => match f x y, eqL f xs ys with
    | some a, some b => some (a && b)
    | _, _ => none
/-- ==, where it is known (n: how deep) -/
def eqN : Nat → D → D → Option Bool
  | 0, _, _ => none
  | n + 1, d, e => match d, e with
    | .non, .non => some true
    | .bl a, .bl b => some (a == b)
    | .bl a, .int j => some ((if a then 1 else 0) == j)
    | .int i, .bl b => some (i == (if b then 1 else 0))
    | .int i, .int j => some (i == j)
    | .str x, .str y => some (x == y)
    | .tup xs, .tup ys => eqL (eqN n) xs ys
    | .lst xs, .lst ys => if xs.length = ys.length then eqL (eqN n) xs ys else some false
    | .non, .bl _ | .non, .int _ | .non, .str _ | .non, .tup _ | .non, .lst _ => some false
    | .bl _, .non | .bl _, .str _ | .bl _, .tup _ | .bl _, .lst _ => some false
    | .int _, .non | .int _, .str _ | .int _, .tup _ | .int _, .lst _ => some false
    | .str _, .non | .str _, .bl _ | .str _, .int _ | .str _, .tup _ | .str _, .lst _ => some false
    | .tup _, .non | .tup _, .bl _ | .tup _, .int _ | .tup _, .str _ | .tup _, .lst _ => some false
    | .lst _, .non | .lst _, .bl _ | .lst _, .int _ | .lst _, .str _ | .lst _, .tup _ => some false
    | _, _ => none
def eqD : D → D → Option Bool := eqN 60
def Ky.isI : Ky → Bool
  | .i _ => true
  | .s _ => false
/-- an int is asked of no dict of texts -/
def kyFit (k : Ky) (ks : List Ky) : Bool := ! k.isI || ks.isEmpty || ks.any Ky.isI
def anyD (x : D) : List D → Option Bool
  | [] => some false
  | y :: ys => match eqD y x, anyD x ys with
    | some a, some b => some (a || b)
    | _, _ => none
def inD : D → D → Option Bool
  | x, .tup ys => anyD x ys
  | x, .lst ys => anyD x ys
  | .str a, .str b => match a.cps.toList with
    | [c] => some (decide (c ∈ b.cps.toList))
    | _ => none
  | k, .dic ks _ => (kyOf k).bind fun k => if kyFit k ks then some (decide (k ∈ ks)) else none
  | _, _ => none
/-- the place of an index -/
def place (n : Nat) (i : Int) : Option Nat :=
  if 0 ≤ i then (if i < n then some i.toNat else none) else if -(n : Int) ≤ i then some (i + n).toNat else none
def itemAt {α : Type} (xs : List α) (i : Int) : Option α := (place xs.length i).bind fun j => xs[j]?
def look (k : Ky) : List Ky → List D → Option D
  | k' :: ks, v :: vs => if k = k' then some v else look k ks vs
  | _, _ => none
/-- the dict with k at v -/
def put (k : Ky) (v : D) : List Ky → List D → List Ky × List D
  | k' :: ks, w :: ws => if k = k' then (k' :: ks, v :: ws) else let r := put k v ks ws; (k' :: r.1, w :: r.2)
  | _, _ => ([k], [v])
def idxD : D → D → Option D
  | .tup xs, .int i => itemAt xs i
  | .lst xs, .int i => itemAt xs i
  | .str s, .int i => if s.length ≤ lim then (itemAt s.cps.toList i).map fun c => .str ⟨#[c]⟩ else none
  | .dic ks vs, k => (kyOf k).bind fun k => if kyFit k ks then look k ks vs else none
  | _, _ => none
def clip (n d : Nat) : Option Int → Nat
  | none => d
  | some v => if v < 0 then (v + n).toNat else min v.toNat n
def cutD {α : Type} (xs : List α) (lo hi : Option Int) : List α :=
  (xs.drop (clip xs.length 0 lo)).take (clip xs.length xs.length hi - clip xs.length 0 lo)
def sliceD : D → Option Int → Option Int → Option D
  | .tup xs, lo, hi => some (.tup (cutD xs lo hi))
  | .lst xs, lo, hi => some (.lst (cutD xs lo hi))
  | .str s, lo, hi => if s.length ≤ lim then some (.str ⟨(cutD s.cps.toList lo hi).toArray⟩) else none
  | _, _, _ => none
def revD : D → Option D
  | .tup xs => some (.tup xs.reverse)
  | .lst xs => some (.lst xs.reverse)
  | _ => none
def small (i : Int) : Bool := decide (-18446744073709551616 < i ∧ i < 18446744073709551616)
def binD : BOp → D → D → Option D
  | .add, .int i, .int j => some (.int (i + j))
  | .add, .str a, .str b => if a.length + b.length ≤ lim then some (.str (a ++ b)) else none
  | .add, .tup xs, .tup ys => if xs.length + ys.length ≤ lim then some (.tup (xs ++ ys)) else none
  | .add, .lst xs, .lst ys => if xs.length + ys.length ≤ lim then some (.lst (xs ++ ys)) else none
  | .sub, .int i, .int j => some (.int (i - j))
  | .mul, .int i, .int j => if small i || small j then some (.int (i * j)) else none
  | .mul, .lst xs, .int k => if 0 ≤ k ∧ k < 16777216 ∧ xs.length * k.toNat ≤ lim then some (.lst (List.replicate k.toNat xs).flatten) else none
  | .fdiv, .int i, .int j => if j ≠ 0 ∧ j.natAbs < 1073741824 then some (.int (i.fdiv j)) else none
  | .mod, .int i, .int j => if j ≠ 0 then some (.int (i.fmod j)) else none
  | .pow, .int i, .int j => if 0 ≤ j ∧ j ≤ 1000000 ∧ i.natAbs < 18446744073709551616 then some (.int (i ^ j.toNat)) else none
  | _, _, _ => none
def cmpD : COp → D → D → Option Bool
  | .eq, a, b => eqD a b
  | .ne, a, b => (eqD a b).map (! ·)
  | .lt, .int i, .int j => some (decide (i < j))
  | .le, .int i, .int j => some (decide (i ≤ j))
  | .gt, .int i, .int j => some (decide (j < i))
  | .ge, .int i, .int j => some (decide (j ≤ i))
  | .is, .non, .non => some true
  | .is, _, .non => some false
  | .isnot, .non, .non => some false
  | .isnot, _, .non => some true
  | .is, .bl a, .bl b => some (decide (a = b))
  | .isnot, .bl a, .bl b => some (!decide (a = b))
  | .isin, a, b => inD a b
  | .notin, a, b => (inD a b).map (! ·)
  | _, _, _ => none
def lenD : D → Option Nat
  | .tup xs => some xs.length
  | .lst xs => some xs.length
  | .str s => if s.length ≤ lim then some s.length else none
  | .scr ns => some ns.length
  | _ => none
def isiD : Ty → D → Option Bool
  | .int, .int _ => some true
  | .int, .bl _ => some true
  | .int, .ins .. => none
  | .int, .scr _ => none
  | .int, .exc .. => none
  | .int, _ => some false
  | .bool, .bl _ => some true
  | .bool, .ins .. => none
  | .bool, .scr _ => none
  | .bool, .exc .. => none
  | .bool, _ => some false
  | .str, .str _ => some true
  | .str, .ins .. => none
  | .str, .scr _ => none
  | .str, .exc .. => none
  | .str, _ => some false
  | .tuple, .tup _ => some true
  | .tuple, .ins .. => none
  | .tuple, .scr _ => none
  | .tuple, .exc .. => none
  | .tuple, _ => some false
  | .list, .lst _ => some true
  | .list, .ins .. => none
  | .list, .scr _ => none
  | .list, .exc .. => none
  | .list, _ => some false
  | .dict, .dic .. => some true
  | .dict, .ins .. => none
  | .dict, .scr _ => none
  | .dict, .exc .. => none
  | .dict, _ => some false
def kyPy : Ky → PySem.PyData
  | .i n => .int n
  | .s x => .str x
mutual
def toPy : D → Option PySem.PyData
  | .non => some .none
  | .bl b => some (.bool b)
  | .int i => some (.int i)
  | .str s => some (.str s)
  | .tup xs => (toPys xs).map .tuple
  | .lst xs => (toPys xs).map .list
  | .dic ks vs => match toPys vs with
    | some ps => if ks.length = ps.length then some (.dict ((ks.map kyPy).zip ps)) else none
    | none => none
  | .ins .. => none
  | .scr _ => none
  | .exc .. => none
def toPys : List D → Option (List PySem.PyData)
  | [] => some []
  | x :: xs => match toPy x, toPys xs with
    | some d, some ds => some (d :: ds)
    | _, _ => none
end
/-- repr, where it is known -/
def isSeq : D → Bool
  | .tup _ => true
  | .lst _ => true
  | .dic .. => true
  | .non => true
  | .bl _ => true
  | .int _ => true
  | .str _ => true
  | _ => false
def reprD (d : D) : Option Str := match toPy d with
  | some p => if isSeq d = true ∧ p.showable = true ∧ p.shown.length ≤ lim ∧ p.depth ≤ 100 then some p.shown else none
  | none => none
def allB : List D → Option (List Bool)
  | [] => some []
  | .bl b :: r => (allB r).map (b :: ·)
  | _ => none
def allI : List D → Option (List Int)
  | [] => some []
  | .int b :: r => (allI r).map (b :: ·)
  | _ => none
/-- len(set(xs)), xs of ints -/
def metI (ns : List Int) : List Int := ns.foldl (fun acc x => if acc.any (· == x) then acc else acc ++ [x]) []
def lnsD : D → Option D
  | .lst xs => (allI xs).bind fun ns => if ns.length ≤ 4000 then some (.int ((metI ns).length : Nat)) else none
  | _ => none
def biD1 : BI → D → Option D
  | .len, d => (lenD d).map fun (n : Nat) => D.int (n : Int)
  | .all, .lst xs => (allB xs).map fun bs => .bl (bs.all id)
  | .any, .lst xs => (allB xs).map fun bs => .bl (bs.any id)
  | .list, .lst xs => some (.lst xs)
  | .list, .tup xs => some (.lst xs)
  | .tuple, .lst xs => some (.tup xs)
  | .tuple, .tup xs => some (.tup xs)
  | .str, .int i => if i.natAbs.log2 < 1920 then some (.str (toString i)) else none
  | .int, .int i => some (.int i)
  | .repr, d => (reprD d).map .str
  | .abs, .int i => some (.int (if i < 0 then -i else i))
  | .sum, .lst xs => (allI xs).map fun ns => .int ns.sum
  | _, _ => none
def biD2 : BI → D → D → Option D
  | .min, .int i, .int j => some (.int (if j < i then j else i))
  | .max, .int i, .int j => some (.int (if j > i then j else i))
  | _, _, _ => none
def biD (b : BI) : List D → Option D
  | [d] => biD1 b d
  | [d, e] => biD2 b d e
  | _ => none
def bmD : BM → D → List D → Option D
  | .get, .dic ks vs, [k, d] => (kyOf k).bind fun k => if kyFit k ks then some ((look k ks vs).getD d) else none
  | _, _, _ => none
/-! ### what is computed -/
/-- an exception: its class, its fields -/
structure Exn where
  c : Nat
  fs : List Str
  xs : List D
inductive R (α : Type) where
  | ok (a : α)
  | ex (x : Exn)
abbrev M (α : Type) : Type := Env → Option (R α × Env)
namespace M
def ret {α : Type} (a : α) : M α := fun ρ => some (.ok a, ρ)
def bnd {α β : Type} (m : M α) (k : α → M β) : M β := fun ρ => match m ρ with
  | none => none
  | some (.ok a, ρ') => k a ρ'
  | some (.ex x, ρ') => some (.ex x, ρ')
instance : Monad M where
  pure := ret
  bind := bnd
def lift {α : Type} (o : Option α) : M α := fun ρ => match o with
  | some a => some (.ok a, ρ)
  | none => none
def stuck {α : Type} : M α := fun _ => none
def raise {α : Type} (x : Exn) : M α := fun ρ => some (.ex x, ρ)
end M
open M
/-- a value, or a new object that nothing else names -/
inductive W where
  | val (d : D)
  | own (o : Ob)
/-- what a call gives -/
inductive Got where
  | ok (w : W)
  | ex (x : Exn)
structure Res where
  out : Got
  backs : List Ob
inductive Arg where
  | v (d : D)
  | o (o : Ob)
structure Cfg where
  call : Nat → List Arg → Option Res
  glob : Nat → Option D
  meth : Nat → Str → Option Nat
  flds : Nat → Str → Bool
  init : Nat → Option Nat
  /-- how many parameters -/
  arity : Nat → Nat
  loops : Nat
  /-- is the one class of exceptions within the other -/
  xsub : Nat → Nat → Option Bool
  /-- a class of ours: within ValueError -/
  xval : Nat → Option Bool
  /-- the fields of its exceptions; none: no own __init__ -/
  xfl : Nat → Option (List Str)
  /-- a class that the law's try catches -/
  caught : Nat → Bool
  /-- lambdas may be made -/
  lamOk : Bool
def frz : Ob → Option D
  | .lst xs => some (.lst xs)
  | .dic ks vs => some (.dic ks vs)
  | .ins c fs vs => some (.ins c fs vs)
  | .drw _ => none
def W.fz : W → Option D
  | .val d => some d
  | .own o => frz o
/-- a read that lets the object go -/
def readV (i : Nat) : M D := fun ρ => match ρ[i]? with
  | some (.val d) => some (.ok d, ρ)
  | some (.own o false) => match frz o with
    | some d => some (.ok d, ρ.set i (.val d))
    | none => none
  | _ => none
/-- a read on the spot -/
def peekV (i : Nat) (ρ : Env) : Option D := match ρ[i]? with
  | some (.val d) => some d
  | some (.own o _) => frz o
  | _ => none
def W.slot : W → Slot
  | .val d => .val d
  | .own o => .own o false
def setV (i : Nat) (w : W) : M Unit := fun ρ => match ρ[i]? with
  | some .un | some (.val _) | some (.own _ false) => some (.ok (), ρ.set i w.slot)
  | _ => none
def isVar : E → Option Nat
  | .var i => some i
  | _ => none
/-- an operand that is worked out, then looked at -/
def fin (e : E) (d : D) (ρ : Env) : Option D := match isVar e with
  | some i => peekV i ρ
  | none => some d
mutual
/-- the slots of a target -/
def patIx : Pat → List Nat
  | .name i => [i]
  | .tup ps => patIxs ps
def patIxs : List Pat → List Nat
  | [] => []
  | p :: ps => patIx p ++ patIxs ps
end
mutual
def bindP : Pat → D → M Unit
  | .name i, d => setV i (.val d)
  | .tup ps, .tup ds => if ps.length = ds.length then bindPs ps ds else stuck
  | .tup ps, .lst ds => if ps.length = ds.length then bindPs ps ds else stuck
  | .tup _, _ => stuck
def bindPs : List Pat → List D → M Unit
  | [], [] => ret ()
  | p :: ps, d :: ds => bnd (bindP p d) fun _ => bindPs ps ds
  | _, _ => stuck
end
def range (lo hi : Int) : List D := (List.range (hi - lo).toNat).map fun (k : Nat) => D.int (lo + (k : Int))
def okR (i : Int) : Bool := decide (-4611686018427387904 ≤ i ∧ i < 4611686018427387904)
def itemsD : D → Option (List D)
  | .scr ns => some (ns.map .int)
  | .tup xs => some xs
  | .lst xs => some xs
  | .str s => some (s.cps.toList.map fun c => .str ⟨#[c]⟩)
  | _ => none
def seqD : D → Option (List D)
  | .tup xs => some xs
  | .lst xs => some xs
  | _ => none
def enumD (xs : List D) : List D := xs.zipIdx.map fun p => .tup [.int (p.2 : Int), p.1]
def zipD : List (List D) → List D
  | [xs, ys] => (xs.zip ys).map fun p => .tup [p.1, p.2]
  | [xs, ys, zs] => (xs.zip (ys.zip zs)).map fun p => .tup [p.1, p.2.1, p.2.2]
  | _ => []
def truth : D → Option Bool
  | .bl b => some b
  | _ => none
def wipeE (ρ : Env) : List Nat → Env
  | [] => ρ
  | i :: is => (wipeE ρ is).set i .un
/-- the slots is as in ρ0, the others as in ρ -/
def backE (ρ0 ρ : Env) : List Nat → Env
  | [] => ρ
  | i :: is => (backE ρ0 ρ is).set i (ρ0.getD i .un)
def plainAt (ρ : Env) (is : List Nat) : Bool := is.all fun i => match ρ[i]? with
  | some .un | some (.val _) => true
  | _ => false
def attrD (ok : Nat → Str → Bool) (xf : Nat → Option (List Str)) (d : D) (f : Str) : Option D := match d with
  | .ins c fs vs => if ok c f then (fs.zip vs).lookup f else none
  | .exc c fs vs => if xf c = some fs then (fs.zip vs).lookup f else none
  | _ => none
def putFld (f : Str) (v : D) : List Str → List D → List Str × List D
  | g :: gs, w :: ws => if f = g then (g :: gs, v :: ws) else let r := putFld f v gs ws; (g :: r.1, w :: r.2)
  | _, _ => ([f], [v])
/-- the io slots take what comes back -/
def putBack : List Nat → List Ob → M Unit
  | [], [] => ret ()
  | i :: is, o :: os => fun ρ => match ρ[i]? with
    | some (.own _ m) => putBack is os (ρ.set i (.own o m))
    | _ => none
  | _, _ => stuck
def ownW : D → W
  | .lst xs => .own (.lst xs)
  | d => .val d
def gotM (is : List Nat) (r : Option Res) : M W := fun ρ => match r with
  | none => none
  | some r => match putBack is r.backs ρ with
    | some (.ok _, ρ') => match r.out with
      | .ok w => some (.ok w, ρ')
      | .ex x => some (.ex x, ρ')
    | _ => none
def ioAt (i : Nat) (ρ : Env) : Option Ob := match ρ[i]? with
  | some (.own o _) => some o
  | _ => none
def hasIo (i : Nat) : M Unit := fun ρ => match ioAt i ρ with
  | some _ => some (.ok (), ρ)
  | none => none
inductive AV where
  | v (d : D)
  | io (i : Nat)
def AV.arg (ρ : Env) : AV → Option Arg
  | .v d => some (.v d)
  | .io i => (ioAt i ρ).map .o
def ioOf : List AV → List Nat
  | [] => []
  | .v _ :: r => ioOf r
  | .io i :: r => i :: ioOf r
def isDic : D → Bool
  | .dic .. => true
  | _ => false
/-- what the draw of slot i says -/
def drInt (i : Nat) (k : Str) (ρ : Env) : Option D := match ρ[i]? with
  | some (.own (.drw s) _) => if k = "rest" then some (.int s.rest) else if k = "turn" then some (.int s.turn) else none
  | _ => none
def drWid (i : Nat) (ρ : Env) : Option D := match ρ[i]? with
  | some (.own (.drw s) _) => some (.bl (!s.wide.isEmpty))
  | _ => none
def drPop (i : Nat) : M W := fun ρ => match ρ[i]? with
  | some (.own (.drw s) m) => match s.wide with
    | w :: r => some (.ok (.val (.int w)), ρ.set i (.own (.drw { s with wide := r }) m))
    | [] => none
  | _ => none
def valM' (f : Env → Option D) : M W := fun ρ => match f ρ with
  | some d => some (.ok (.val d), ρ)
  | none => none
section
variable (C : Cfg)
def callM (f : Nat) (as : List AV) : M W := fun ρ => match as.mapM (AV.arg ρ) with
  | some args => if (ioOf as).length ≤ 1 then gotM (ioOf as) (C.call f args) ρ else none
  | none => none
def callNM (f : Nat) (ds : List D) : M W := match C.call f (ds.map .v ++ [.o (.dic [] [])]) with
  | some ⟨.ok (.val d), [_]⟩ => ret (.val d)
  | _ => stuck
/-- a method that an instance has -/
def methOf (o : D) (m : Str) (n : Nat) : Option Nat := match o with
  | .ins c fs _ => match C.meth c m with
    | some f => if !fs.contains m && C.arity f == n + 1 then some f else none
    | none => none
  | _ => none
def methM (f : Nat) (o : D) (ds : List D) : M W := gotM [] (C.call f (.v o :: ds.map .v))
def makeM (c : Nat) (ds : List D) : M W := match C.init c with
  | some f => if C.arity f == ds.length + 1 then (match C.call f (.o (.ins c [] []) :: ds.map .v) with
    | some ⟨.ok (.val .non), [o]⟩ => ret (.own o)
    | _ => stuck) else stuck
  | none => stuck
/-- a new exception: the fields are the arguments -/
def mkxX (c : Nat) (ds : List D) : M Exn := match C.xfl c with
  | some fs => if fs = [] then (if ds.length = 1 then ret ⟨c, [], []⟩ else stuck) else if ds.length = fs.length then ret ⟨c, fs, ds⟩ else stuck
  | none => stuck
/-- a comprehension lets no exception out -/
def noEx {α : Type} (m : M α) : M α := fun ρ => match m ρ with
  | some (.ok a, ρ') => some (.ok a, ρ')
  | _ => none
/-- one turn after another: the items -/
def lcM (p : Pat) (own : List Nat) (test : M Bool) (elt : M D) (ρ0 : Env) : List D → List D → M (List D)
  | [], acc => ret acc
  | d :: ds, acc => bnd (fun ρ => some (.ok (), wipeE ρ own)) fun _ => bnd (bindP p d) fun _ => bnd test fun b =>
      bnd (match b with
        | true => bnd elt fun x => if acc.length < lim then ret (acc ++ [x]) else stuck
        | false => ret acc) fun acc' => bnd (fun ρ => if plainAt ρ own then some (.ok (), backE ρ0 ρ own) else none) fun _ => lcM p own test elt ρ0 ds acc'
def fzM (m : M W) : M D := bnd m fun w => lift w.fz
def peekM (i : Nat) : M D := fun ρ => match peekV i ρ with
  | some d => some (.ok d, ρ)
  | none => none
/-- an operand's first look -/
def opd (e : E) (m : M W) : M D := match isVar e with
  | some i => peekM i
  | none => fzM m
def fin1 (a : E) (x : D) (k : D → M W) : M W := fun ρ => match fin a x ρ with
  | some x => k x ρ
  | none => none
def fin2 (a b : E) (x y : D) (k : D → D → M W) : M W := fin1 a x fun x => fin1 b y fun y => k x y
def finAll : List E → List D → Env → Option (List D)
  | [], [], _ => some []
  | e :: es, d :: ds, ρ => match fin e d ρ, finAll es ds ρ with
    | some x, some xs => some (x :: xs)
    | _, _ => none
  | _, _, _ => none
def valM (o : Option D) : M W := bnd (lift o) fun d => ret (.val d)
def newM (o : Option D) : M W := bnd (lift o) fun d => ret (ownW d)
def blM (o : Option Bool) : M W := bnd (lift o) fun d => ret (.val (.bl d))
def boolOf (d : D) (k : Bool → M W) : M W := match d with
  | .bl b => k b
  | _ => stuck
def starD (b : Bool) (d : D) : Option (List D) := if b then seqD d else some [d]
def permL {α : Type} (pm : List Nat) (l : List α) : List α := pm.filterMap fun i => l[i]?
def sdfH (i : Nat) : M Unit := fun ρ => match ρ[i]? with
  | some (.own (.dic _ _) _) => some (.ok (), ρ)
  | _ => none
def sdfM (i : Nat) (kd d : D) : M W := fun ρ => match ρ[i]? with
  | some (.own (.dic ks vs) m) => (match kyOf kd with
    | some k => if ks.length < 1000 then (match look k ks vs with
      | some x => some (.ok (.val x), ρ)
      | none => some (.ok (.val d), ρ.set i (.own (.dic (put k d ks vs).1 (put k d ks vs).2) m))) else none
    | none => none)
  | _ => none
mutual
def den : E → M W
  | .stk => stuck
  | .drI i k => valM' (drInt i k)
  | .drW i => valM' (drWid i)
  | .drP i => drPop i
  | .lit d => ret (.val d)
  | .var i => bnd (readV i) fun d => ret (.val d)
  | .glob g => valM (C.glob g)
  | .tup es => bnd (denEs es) fun ds => if ds.length ≤ 1000 then ret (.val (.tup ds)) else stuck
  | .lst es => bnd (denEs es) fun ds => if ds.length ≤ 1000 then ret (.own (.lst ds)) else stuck
  | .dic ks es => bnd (denEs es) fun ds => if ks.Nodup ∧ ds.length = ks.length ∧ ks.length ≤ 15 then ret (.own (.dic (ks.map .s) ds)) else stuck
  | .bin op a b => bnd (opd a (den a)) fun x => bnd (opd b (den b)) fun y => fin2 a b x y fun x y => newM (binD op x y)
  | .neg a => bnd (opd a (den a)) fun x => fin1 a x fun x => match x with
    | .int i => ret (.val (.int (-i)))
    | _ => stuck
  | .cmp op a b => bnd (opd a (den a)) fun x => bnd (opd b (den b)) fun y => fin2 a b x y fun x y => blM (cmpD op x y)
  | .chain op op' a b c => bnd (opd a (den a)) fun x => bnd (opd b (den b)) fun y => fin2 a b x y fun x' y' => bnd (lift (cmpD op x' y')) fun k =>
      if k then bnd (opd c (den c)) fun z => fin2 b c y z fun y z => blM (cmpD op' y z) else ret (.val (.bl false))
  | .and a b => bnd (fzM (den a)) fun x => boolOf x fun k => if k then den b else ret (.val (.bl false))
  | .or a b => bnd (fzM (den a)) fun x => boolOf x fun k => if k then ret (.val (.bl true)) else den b
  | .not a => bnd (fzM (den a)) fun x => boolOf x fun k => ret (.val (.bl (!k)))
  | .ifE c a b => bnd (fzM (den c)) fun x => boolOf x fun k => if k then den a else den b
  | .idx a b => bnd (opd a (den a)) fun x => bnd (opd b (den b)) fun y => fin2 a b x y fun x y => valM (idxD x y)
  | .slice a lo hi => bnd (opd a (den a)) fun x => bnd (denO lo) fun l => bnd (denO hi) fun h => fin1 a x fun x => newM (sliceD x l h)
  | .rev a => bnd (opd a (den a)) fun x => fin1 a x fun x => newM (revD x)
  | .attr a f => bnd (opd a (den a)) fun x => fin1 a x fun x => valM (attrD C.flds C.xfl x f)
  | .call f as => bnd (denAs as) fun vs => callM C f vs
  | .callP f pm as => bnd (denAs as) fun vs => callM C f (permL pm vs)
  | .callN f es => bnd (denEs es) fun ds => callNM C f ds
  | .meth o m es => bnd (fzM (den o)) fun x => bnd (lift (methOf C x m es.length)) fun f => bnd (denEs es) fun ds => methM C f x ds
  | .make c es => bnd (denEs es) fun ds => makeM C c ds
  | .mkx c es => bnd (denEs es) fun ds => bnd (mkxX C c ds) fun x => ret (.val (.exc x.c x.fs x.xs))
  | .bi b es => bnd (denOs es) fun ds => fun ρ => match finAll es ds ρ with
    | some ds => newM (biD b ds) ρ
    | none => none
  | .isi e t => bnd (opd e (den e)) fun x => fin1 e x fun x => blM (isiD t x)
  | .isc e c => bnd (opd e (den e)) fun x => fin1 e x fun x => match x with
    | .exc k _ _ => blM (C.xsub k c)
    | _ => stuck
  | .tupS fl es => bnd (denXs es fl) fun ds => if ds.length ≤ 1000 then ret (.val (.tup ds)) else stuck
  | .lstS fl es => bnd (denXs es fl) fun ds => if ds.length ≤ 1000 then ret (.own (.lst ds)) else stuck
  | .lns e => bnd (opd e (den e)) fun x => fin1 e x fun x => valM (lnsD x)
  | .isv e => bnd (opd e (den e)) fun x => fin1 e x fun x => match x with
    | .exc k _ _ => blM (C.xval k)
    | _ => stuck
  | .sdf i k v => bnd (sdfH i) fun _ => bnd (fzM (den k)) fun kd => bnd (fzM (den v)) fun d => sdfM i kd d
  | .lerr e => fun ρ => if C.lamOk then (match den e ρ with
    | some (.ok _, ρ') => some (.ok (.val .non), ρ')
    | some (.ex x, ρ') => if C.caught x.c then some (.ok (.val (.exc x.c x.fs x.xs)), ρ') else none
    | none => none) else none
  | .bm m o es => bnd (opd o (den o)) fun x => if isDic x then bnd (denEs es) fun ds => fin1 o x fun x => valM (bmD m x ds) else stuck
  | .lc p it cs e own => bnd (denI it) fun ds => fun ρ => if plainAt ρ own then (bnd (noEx (lcM p own (denCs cs) (fzM (den e)) ρ ds [])) fun xs => ret (.own (.lst xs))) ρ else none
  | .dc _ it _ _ _ => bnd (denI it) fun ds => match ds with
    | [] => ret (.own (.dic [] []))
    | _ => stuck
def denEs : List E → M (List D)
  | [] => ret []
  | e :: es => bnd (fzM (den e)) fun d => bnd (denEs es) fun ds => ret (d :: ds)
/-- items, the starred ones in their places -/
def denXs : List E → List Bool → M (List D)
  | [], _ => ret []
  | e :: es, fl => bnd (fzM (den e)) fun d => bnd (lift (starD (fl.headD false) d)) fun xs => bnd (denXs es fl.tail) fun ds => ret (xs ++ ds)
/-- operands -/
def denOs : List E → M (List D)
  | [] => ret []
  | e :: es => bnd (opd e (den e)) fun d => bnd (denOs es) fun ds => ret (d :: ds)
def denAs : List Ar → M (List AV)
  | [] => ret []
  | .v e :: as => bnd (fzM (den e)) fun d => bnd (denAs as) fun ds => ret (.v d :: ds)
  | .io i :: as => bnd (hasIo i) fun _ => bnd (denAs as) fun ds => ret (.io i :: ds)
def denO : Option E → M (Option Int)
  | none => ret none
  | some e => bnd (fzM (den e)) fun d => match d with
    | .int i => ret (some i)
    | _ => stuck
def denCs : List E → M Bool
  | [] => ret true
  | e :: es => bnd (fzM (den e)) fun d => match d with
    | .bl true => denCs es
    | .bl false => ret false
    | _ => stuck
def denI : It → M (List D)
  | .of e => bnd (fzM (den e)) fun d => lift (itemsD d)
  | .rng es => bnd (denEs es) fun ds => match ds with
    | [.int j] => if okR j then ret (range 0 j) else stuck
    | [.int i, .int j] => if okR i && okR j then ret (range i j) else stuck
    | _ => stuck
  | .enm e => bnd (fzM (den e)) fun d => lift ((seqD d).map enumD)
  | .zip es => bnd (denEs es) fun ds => lift ((ds.mapM seqD).map zipD)
end
end
def denWs (C : Cfg) : List E → M (List W)
  | [] => ret []
  | e :: es => bnd (den C e) fun w => bnd (denWs C es) fun ws => ret (w :: ws)
def setVs : List Nat → List W → M Unit
  | [], [] => ret ()
  | i :: is, w :: ws => bnd (setV i w) fun _ => setVs is ws
  | _, _ => stuck
/-- the slot owns such an object -/
def holds (i : Nat) (k : Ob → Bool) : M Unit := fun ρ => match ρ[i]? with
  | some (.own o _) => if k o then some (.ok (), ρ) else none
  | _ => none
def Ob.isL : Ob → Bool
  | .lst _ => true
  | _ => false
def Ob.isD : Ob → Bool
  | .dic _ _ => true
  | _ => false
/-! ### statements -/
inductive Fl where
  | nx
  | rt (w : W)
  | bk
  | ct
section
variable (C : Cfg)
/-- the slot's own object, changed -/
def chg (i : Nat) (f : Ob → Option Ob) : M Unit := fun ρ => match ρ[i]? with
  | some (.own o m) => match f o with
    | some o' => some (.ok (), ρ.set i (.own o' m))
    | none => none
  | _ => none
def chgW {α : Type} (i : Nat) (f : Ob → Option (α × Ob)) : M α := fun ρ => match ρ[i]? with
  | some (.own o m) => match f o with
    | some (a, o') => some (.ok a, ρ.set i (.own o' m))
    | none => none
  | _ => none
def nxt (m : M Unit) : M Fl := bnd m fun _ => ret .nx
def whlM (c : M D) (body : M Fl) : Nat → M Fl
  | 0 => stuck
  | n + 1 => bnd c fun d => match d with
    | .bl true => bnd body fun f => match f with
      | .nx | .ct => whlM c body n
      | .bk => ret .nx
      | .rt d => ret (.rt d)
    | .bl false => ret .nx
    | _ => stuck
def forM (p : Pat) (body : M Fl) : List D → M Fl
  | [] => ret .nx
  | d :: ds => bnd (bindP p d) fun _ => bnd body fun f => match f with
    | .nx | .ct => forM p body ds
    | .bk => ret .nx
    | .rt d => ret (.rt d)
def iffM (d : D) (a b : M Fl) : M Fl := match d with
  | .bl true => a
  | .bl false => b
  | _ => stuck
def putsD : List Ky → List D → List Ky → List D → List Ky × List D
  | [], _, ks, vs => (ks, vs)
  | k :: r, v :: vr, ks, vs => let q := put k v ks vs; putsD r vr q.1 q.2
  | _ :: _, [], ks, vs => (ks, vs)
def appO (d : D) : Ob → Option Ob
  | .lst xs => if xs.length < lim then some (.lst (xs ++ [d])) else none
  | _ => none
def extO (d : D) : Ob → Option Ob
  | .lst xs => match d with
    | .lst ys => if xs.length + ys.length ≤ lim then some (.lst (xs ++ ys)) else none
    | _ => none
  | _ => none
def putO (kd d : D) : Ob → Option Ob
  | .dic ks vs => (kyOf kd).bind fun k => if ks.length < 1000 then some (.dic (put k d ks vs).1 (put k d ks vs).2) else none
  | _ => none
def updO (w : W) : Ob → Option Ob
  | .dic ks vs => match w with
    | .own (.dic ks' vs') => if ks.length + ks'.length ≤ 1000 then some (.dic (putsD ks' vs' ks vs).1 (putsD ks' vs' ks vs).2) else none
    | _ => none
  | _ => none
def setfO (ok : Nat → Str → Bool) (f : Str) (d : D) : Ob → Option Ob
  | .ins c fs vs => if ok c f = true ∧ fs.length < 900 then some (.ins c (putFld f d fs vs).1 (putFld f d fs vs).2) else none
  | _ => none
def drSet (k : Str) (v : Int) : Ob → Option Ob
  | .drw s => if k = "rest" then some (.drw { s with rest := v }) else if k = "turn" then some (.drw { s with turn := v }) else none
  | _ => none
def cellsAt (i : Nat) (ρ : Env) : Option (List Int) := match ρ[i]? with
  | some (.own (.drw s) true) => some s.cells
  | _ => none
def sameC (i : Nat) (cs : List Int) : M Unit := fun ρ => if cellsAt i ρ = some cs then some (.ok (), ρ) else none
def forCM (p : Pat) (i : Nat) (cs : List Int) (body : M Fl) : List Int → M Fl
  | [] => bnd (sameC i cs) fun _ => ret .nx
  | c :: r => bnd (sameC i cs) fun _ => bnd (bindP p (.int c)) fun _ => bnd body fun f => match f with
    | .nx | .ct => forCM p i cs body r
    | .bk => ret .nx
    | .rt d => ret (.rt d)
def drOf (i : Nat) (w : W) : M Fl := fun ρ => match w with
  | .own (.lst cs) => match ρ[i]? with
    | some (.own (.lst ws) false) => match allI ws, allI cs with
      | some a, some b => some (.ok (.rt (.own (.drw ⟨a, b, 0, 0⟩))), ρ.set i .un)
      | _, _ => none
    | _ => none
  | _ => none
mutual
def denS : S → M Fl
  | .stk => stuck
  | .skip => ret .nx
  | .expr e => bnd (fzM (den C e)) fun _ => ret .nx
  | .set i e => bnd (den C e) fun w => nxt (setV i w)
  | .setp p e => bnd (fzM (den C e)) fun d => nxt (bindP p d)
  | .par is es => bnd (denWs C es) fun ws => nxt (setVs is ws)
  | .aug i op e => bnd (peekM i) fun x => bnd (fzM (den C e)) fun y => bnd (lift (binD op x y)) fun d => match d with
    | .int z => nxt (setV i (.val (.int z)))
    | _ => stuck
  | .app i e => bnd (holds i Ob.isL) fun _ => bnd (fzM (den C e)) fun d => nxt (chg i (appO d))
  | .ext i e => bnd (holds i Ob.isL) fun _ => bnd (fzM (den C e)) fun d => nxt (chg i (extO d))
  | .upd i e => bnd (holds i Ob.isD) fun _ => bnd (den C e) fun w => nxt (chg i (updO w))
  | .seti i k e => bnd (holds i Ob.isD) fun _ => bnd (fzM (den C e)) fun d => bnd (fzM (den C k)) fun kd => nxt (chg i (putO kd d))
  | .setf i f e => bnd (fzM (den C e)) fun d => nxt (chg i (setfO C.flds f d))
  | .pop p i => bnd (chgW i fun o => match o with
    | .lst xs => xs.getLast?.map fun x => (x, .lst xs.dropLast)
    | _ => none) fun d => nxt (bindP p d)
  | .ret e => bnd (fzM (den C e)) fun d => ret (.rt (.val d))
  | .iff c a b => bnd (fzM (den C c)) fun d => iffM d (denSs a) (denSs b)
  | .for_ p it body => bnd (denI C it) fun ds => forM p (denSs body) ds
  | .whl c body => whlM (fzM (den C c)) (denSs body) C.loops
  | .brk => ret .bk
  | .cont => ret .ct
  | .rse c es => bnd (denEs C es) fun ds => bnd (mkxX C c ds) fun x => raise x
  | .drS i k e => bnd (fzM (den C e)) fun d => match d with
    | .int v => nxt (chg i (drSet k v))
    | _ => stuck
  | .retD i e => bnd (holds i Ob.isL) fun _ => bnd (den C e) fun w => drOf i w
  | .forC p i body => fun ρ => match cellsAt i ρ with
    | some cs => forCM p i cs (denSs body) cs ρ
    | none => none
def denSs : List S → M Fl
  | [] => ret .nx
  | s :: r => bnd (denS s) fun f => match f with
    | .nx => denSs r
    | f => ret f
end
end
def slotOf : Bool → Arg → Option Slot
  | false, .v d => some (.val d)
  | true, .o o => some (.own o true)
  | _, _ => none
def slots : List Bool → List Arg → Option (List Slot)
  | [], [] => some []
  | b :: bs, a :: as => match slotOf b a, slots bs as with
    | some x, some xs => some (x :: xs)
    | _, _ => none
  | _, _ => none
def backsOf : List Bool → Env → Option (List Ob)
  | [], _ => some []
  | true :: bs, .own o true :: ρ => (backsOf bs ρ).map (o :: ·)
  | false :: bs, _ :: ρ => backsOf bs ρ
  | _, _ => none
def runFn (C : Cfg) (f : Fn) (args : List Arg) : Option Res := match slots f.pars args with
  | some ρ => match denSs C f.body (ρ ++ List.replicate (f.slots - ρ.length) .un) with
    | some (.ok (.rt w), ρ') => (backsOf f.pars ρ').map fun os => ⟨.ok w, os⟩
    | some (.ok .nx, ρ') => (backsOf f.pars ρ').map fun os => ⟨.ok (.val .non), os⟩
    | some (.ex x, ρ') => (backsOf f.pars ρ').map fun os => ⟨.ex x, os⟩
    | _ => none
  | none => none
/-- a program: its defs, some done by hand -/
structure Prog where
  fn : Nat → Option Fn
  hand : Nat → List Arg → Option Res
  glob : Nat → Option D
  meth : Nat → Str → Option Nat
  flds : Nat → Str → Bool
  init : Nat → Option Nat
  arity : Nat → Nat
  loops : Nat
  xsub : Nat → Nat → Option Bool
  /-- a class of ours: within ValueError -/
  xval : Nat → Option Bool
  /-- the fields of its exceptions; none: no own __init__ -/
  xfl : Nat → Option (List Str)
  caught : Nat → Bool
  /-- from here on lambdas may be made -/
  lam0 : Nat
def evalN (P : Prog) : Nat → Nat → List Arg → Option Res
  | 0, _, _ => none
  | n + 1, f, args => match P.fn f with
    | some fn => runFn ⟨evalN P n, P.glob, P.meth, P.flds, P.init, P.arity, P.loops, P.xsub, P.xval, P.xfl, P.caught, decide (P.lam0 ≤ n)⟩ fn args
    | none => P.hand f args
end Py
set_option Elab.async false
set_option linter.all false
set_option maxRecDepth 100000
set_option maxHeartbeats 4000000
/-! PyB: data in the heap. -/
namespace Py
open PySem PySem.Spec L2
abbrev VV := L2.V
/-- where the classes stand; the tables of code objects, with the names that the code objects bear -/
structure Nm where
  at_ : Nat → Addr
  T : List (Addr × Str)
instance : CoeFun Nm (fun _ => Nat → Addr) := ⟨Nm.at_⟩
/-- no table -/
def NT (o : HO) : Prop := ∀ ps, o ≠ .tbl ps
/-- a table at P: the code objects that it tells bear the name q -/
def TbAt (F H : Hp) (P : Addr) (q : Str) : Prop := F P = none ∧ ∃ ps : Array Value, H P = some (.tbl ps) ∧ TriplesOk ps.toList ∧ ∀ (pos : Pos) (cv : Value), codeAmong pos ps.toList = some cv → ∃ c, cv = .ref c ∧ F c = some (LamX.CodeO c q)
def Tbs (T : List (Addr × Str)) (F H : Hp) : Prop := ∀ p ∈ T, TbAt F H p.1 p.2
theorem TbAt.mono {F F' H H' : Hp} {P : Addr} {q : Str} (h : TbAt F H P q) (f : ∀ a o, F a = some o → F' a = some o) (n : H P ≠ none → F' P = none) (k : ∀ ps, H P = some (.tbl ps) → H' P = some (.tbl ps)) : TbAt F' H' P q := by
  obtain ⟨h0, ps, h1, h2, h3⟩ := h
  exact ⟨n (by rw [h1]; simp), ps, k _ h1, h2, fun pos cv e => by
    obtain ⟨c, e1, e2⟩ := h3 pos cv e
    exact ⟨c, e1, f _ _ e2⟩⟩
/-- what the written part and the classes are -/
structure Wd where
  K : PySem.W.Frag
  w : World
  cls : Nm
def Sub (F H : Hp) : Prop := ∀ a o, F a = some o → H a = some o
theorem Sub.rfl {F : Hp} : Sub F F := fun _ _ h => h
theorem Sub.tr {F G H : Hp} (a : Sub F G) (b : Sub G H) : Sub F H := fun x o h => b x o (a x o h)
/-- an exception: an object of the class at C, its dict -/
def ExD (C : Addr) (dd : Option Addr) (a : Addr) : HO := .ext fun h => ∃ (oe : Obj) (vs : Array Value), h.get? a = some oe ∧ Zc (.ref C) dd oe ∧ oe.data = .fields vs
/-- .. without a dict -/
abbrev ExT (C a : Addr) : HO := ExD C none a
theorem exD_ok {P : Program} {w : World} {H : Hp} {h : Heap} {C a : Addr} {dd : Option Addr} {oe : Obj} {vs : Array Value} (e : h.get? a = some oe) (z : Zc (.ref C) dd oe) (d : oe.data = .fields vs) : ObjOk P w H h a (ExD C dd a) :=
  ⟨⟨oe, vs, e, z, d⟩, ⟨oe, e⟩, fun _ _ ⟨o, v, q, r⟩ k => ⟨o, v, k o q, r⟩⟩
def kyK : Key → Ky
  | .inl n => .i n
  | .inr x => .s x
/-- the script: a list that is known to the object, or one of the written part -/
def ScrR (K : PySem.W.Frag) (F : Hp) (a : Addr) (ns : List Int) : Prop := (∃ o, F a = some (.frz o (.lst (ns.map L2.V.int)))) ∨ (∀ H : Hp, SqL K H a (ns.map L2.V.int))
mutual
/-- v stands for d: all objects within lie in F -/
inductive Rp (Z : Wd) (F : Hp) : VV → D → Prop where
  | non : Rp Z F .non .non
  | bl (b : Bool) : Rp Z F (.bl b) (.bl b)
  | int (i : Int) : Rp Z F (.int i) (.int i)
  | str (x : Str) : Rp Z F (.str x) (.str x)
  | tup {a : Addr} {vs : List VV} {ds : List D} : SqT Z.K F a vs → RpL Z F vs ds → Rp Z F (.ref a) (.tup ds)
  | lst {a : Addr} {vs : List VV} {ds : List D} : F a = some (.lst vs) → RpL Z F vs ds → Rp Z F (.ref a) (.lst ds)
  | dic {a : Addr} {ks : List Key} {vs : List VV} {ds : List D} : F a = some (.dK (ks.zip vs)) → ks.length = vs.length → ks.Nodup → RpL Z F vs ds → Rp Z F (.ref a) (.dic (ks.map kyK) ds)
  | ins {a dx : Addr} {c : Nat} {fs : List Str} {vs : List VV} {ds : List D} : F a = some (.ins (Z.cls c) dx (fs.zip vs)) → F dx = some (.own a) → fs.length = vs.length → RpL Z F vs ds → Rp Z F (.ref a) (.ins c fs ds)
  | dik {d : Addr} {es : Array DictEntry} {n : Nat} {ks : List Str} {vs : List VV} {ds : List D} : KDict Z.K Z.w d es n → ks ≠ [] → ks.length = vs.length → ks.Nodup → (∀ z : Str, ∃ r, PySem.W.nsIn Z.K d z = some r ∧ RelO ((ks.zip vs).lookup z) r) → Paired (fun (e : DictEntry) (k : Str) => ∃ t, e.key = .str k t) es.toList ks → Vals vs (es.toList.map (·.val)) → RpL Z F vs ds → Rp Z F (.ref d) (.dic (ks.map Ky.s) ds)
  | scr {a : Addr} {ns : List Int} : ScrR Z.K F a ns → Rp Z F (.ref a) (.scr ns)
  | exc {a : Addr} {c : Nat} : F a = some (ExD (Z.cls c) none a) → Rp Z F (.ref a) (.exc c [] [])
  | exd {a d : Addr} {c : Nat} {fs : List Str} {vs : List VV} {ds : List D} : F a = some (ExD (Z.cls c) (some d) a) → F d = some (.xd (fs.zip vs)) → fs.length = vs.length → RpL Z F vs ds → Rp Z F (.ref a) (.exc c fs ds)
inductive RpL (Z : Wd) (F : Hp) : List VV → List D → Prop where
  | nil : RpL Z F [] []
  | cons {v : VV} {vs : List VV} {d : D} {ds : List D} : Rp Z F v d → RpL Z F vs ds → RpL Z F (v :: vs) (d :: ds)
end
section
variable {Z : Wd} {F G H : Hp}
theorem sqT_mono {K : PySem.W.Frag} {a : Addr} {vs : List VV} (s : Sub F G) (h : SqT K F a vs) : SqT K G a vs := by
  rcases h with (h | ⟨o, h⟩) | h
  · exact .inl (.inl (s _ _ h))
  · exact .inl (.inr ⟨o, s _ _ h⟩)
  · exact .inr h
theorem sqL_mono {K : PySem.W.Frag} {a : Addr} {vs : List VV} (s : Sub F G) (h : SqL K F a vs) : SqL K G a vs := by
  rcases h with (h | ⟨o, h⟩) | h
  · exact .inl (.inl (s _ _ h))
  · exact .inl (.inr ⟨o, s _ _ h⟩)
  · exact .inr h
mutual
theorem Rp.mono (s : Sub F G) : ∀ {v : VV} {d : D}, Rp Z F v d → Rp Z G v d
  | _, _, .non => .non
  | _, _, .bl b => .bl b
  | _, _, .int i => .int i
  | _, _, .str x => .str x
  | _, _, .tup h l => .tup (sqT_mono s h) (RpL.mono s l)
  | _, _, .lst h l => .lst (s _ _ h) (RpL.mono s l)
  | _, _, .dic h e n l => .dic (s _ _ h) e n (RpL.mono s l)
  | _, _, .ins h h' e l => .ins (s _ _ h) (s _ _ h') e (RpL.mono s l)
  | _, _, .dik h z e n g k1 k2 l => .dik h z e n g k1 k2 (RpL.mono s l)
  | _, _, .scr (.inl ⟨o, h⟩) => .scr (.inl ⟨o, s _ _ h⟩)
  | _, _, .scr (.inr h) => .scr (.inr h)
  | _, _, .exc h => .exc (s _ _ h)
  | _, _, .exd h h' e l => .exd (s _ _ h) (s _ _ h') e (RpL.mono s l)
theorem RpL.mono (s : Sub F G) : ∀ {vs : List VV} {ds : List D}, RpL Z F vs ds → RpL Z G vs ds
  | _, _, .nil => .nil
  | _, _, .cons h l => .cons (Rp.mono s h) (RpL.mono s l)
end
theorem RpL.length : ∀ {vs : List VV} {ds : List D}, RpL Z F vs ds → vs.length = ds.length
  | _, _, .nil => rfl
  | _, _, .cons _ l => congrArg (· + 1) (RpL.length l)
theorem RpL.get : ∀ {vs : List VV} {ds : List D} {i : Nat} {d : D}, RpL Z F vs ds → ds[i]? = some d → ∃ v, vs[i]? = some v ∧ Rp Z F v d
  | _, _, _, _, .nil, e => by simp at e
  | _, _, 0, _, .cons h _, e => by simp at e; subst e; exact ⟨_, rfl, h⟩
  | _, _, i + 1, d, .cons _ l, e => by
    obtain ⟨v, a, b⟩ := RpL.get (i := i) (d := d) l (by simpa using e)
    exact ⟨v, by simpa using a, b⟩
theorem RpL.get' : ∀ {vs : List VV} {ds : List D} {i : Nat} {v : VV}, RpL Z F vs ds → vs[i]? = some v → ∃ d, ds[i]? = some d ∧ Rp Z F v d
  | _, _, _, _, .nil, e => by simp at e
  | _, _, 0, _, .cons h _, e => by simp at e; subst e; exact ⟨_, rfl, h⟩
  | _, _, i + 1, d, .cons _ l, e => by
    obtain ⟨v, a, b⟩ := RpL.get' (i := i) (v := d) l (by simpa using e)
    exact ⟨v, by simpa using a, b⟩
theorem RpL.app : ∀ {vs ws : List VV} {ds es : List D}, RpL Z F vs ds → RpL Z F ws es → RpL Z F (vs ++ ws) (ds ++ es)
  | _, _, _, _, .nil, b => b
  | _, _, _, _, .cons h l, b => .cons h (RpL.app l b)
theorem RpL.drop : ∀ {vs : List VV} {ds : List D} (n : Nat), RpL Z F vs ds → RpL Z F (vs.drop n) (ds.drop n)
  | _, _, 0, h => h
  | _, _, _ + 1, .nil => .nil
  | _, _, n + 1, .cons _ l => RpL.drop n l
theorem RpL.take : ∀ {vs : List VV} {ds : List D} (n : Nat), RpL Z F vs ds → RpL Z F (vs.take n) (ds.take n)
  | _, _, 0, _ => .nil
  | _, _, _ + 1, .nil => .nil
  | _, _, n + 1, .cons h l => .cons h (RpL.take n l)
theorem RpL.set {v : VV} {d : D} (h : Rp Z F v d) : ∀ {vs : List VV} {ds : List D} (i : Nat), RpL Z F vs ds → RpL Z F (vs.set i v) (ds.set i d)
  | _, _, _, .nil => .nil
  | _, _, 0, .cons _ l => .cons h l
  | _, _, i + 1, .cons q l => .cons q (RpL.set h i l)
theorem RpL.rev {vs : List VV} {ds : List D} (h : RpL Z F vs ds) : RpL Z F vs.reverse ds.reverse := by
  induction vs generalizing ds with
  | nil => cases h; exact .nil
  | cons v vs ih =>
    cases h with
    | cons a l =>
      rw [List.reverse_cons, List.reverse_cons]
      exact RpL.app (ih l) (.cons a .nil)
end
/-- what a slot owns: the object at p and what belongs to it alone (fp), none of it in F -/
def OwnR (Z : Wd) (F H : Hp) (p : Addr) (fp : List Addr) : Ob → Prop
  | .lst ds => fp = [p] ∧ ∃ vs, H p = some (.lst vs) ∧ RpL Z F vs ds
  | .dic ks ds => fp = [p] ∧ ∃ (qs : List Key) (vs : List VV), H p = some (.dK (qs.zip vs)) ∧ qs.length = vs.length ∧ qs.Nodup ∧ ks = qs.map kyK ∧ RpL Z F vs ds
  | .ins c fs ds => ∃ (dx : Addr) (vs : List VV), fp = [p, dx] ∧ H p = some (.ins (Z.cls c) dx (fs.zip vs)) ∧ H dx = some (.own p) ∧ fs.length = vs.length ∧ RpL Z F vs ds
  | .drw s => ∃ aw ac : Addr, fp = [p, aw, ac] ∧ H p = some (.dK [(.inr "wide", .ref aw), (.inr "cells", .ref ac), (.inr "rest", .int s.rest), (.inr "turn", .int s.turn)]) ∧
      H aw = some (.lst (s.wide.map L2.V.int)) ∧ H ac = some (.lst (s.cells.map L2.V.int))
structure Own (Z : Wd) (F H : Hp) (p : Addr) (fp : List Addr) (o : Ob) : Prop where
  r : OwnR Z F H p fp o
  nf : ∀ b ∈ fp, F b = none
  nd : fp.Nodup
theorem OwnR.mem {Z : Wd} {F H : Hp} {p : Addr} {fp : List Addr} {o : Ob} (h : OwnR Z F H p fp o) : p ∈ fp := by
  cases o with
  | lst ds => obtain ⟨rfl, _⟩ := h; simp
  | dic ks ds => obtain ⟨rfl, _⟩ := h; simp
  | ins c fs ds => obtain ⟨_, _, rfl, _⟩ := h; simp
  | drw s => obtain ⟨_, _, rfl, _⟩ := h; simp
theorem OwnR.there {Z : Wd} {F H : Hp} {p : Addr} {fp : List Addr} {o : Ob} (h : OwnR Z F H p fp o) : ∀ b ∈ fp, H b ≠ none := by
  intro b hb
  cases o with
  | lst ds => obtain ⟨rfl, vs, e, _⟩ := h; simp at hb; subst hb; rw [e]; simp
  | dic ks ds => obtain ⟨rfl, _, _, e, _⟩ := h; simp at hb; subst hb; rw [e]; simp
  | ins c fs ds =>
    obtain ⟨dx, vs, rfl, e, e2, _⟩ := h
    simp at hb
    rcases hb with rfl | rfl
    · rw [e]; simp
    · rw [e2]; simp
  | drw s =>
    obtain ⟨aw, ac, rfl, e, e2, e3⟩ := h
    simp at hb
    rcases hb with rfl | rfl | rfl
    · rw [e]; simp
    · rw [e2]; simp
    · rw [e3]; simp
theorem OwnR.nt {Z : Wd} {F H : Hp} {o : Ob} {p : Addr} {fp : List Addr} (h : OwnR Z F H p fp o) : ∀ b ∈ fp, ∀ ps, H b ≠ some (.tbl ps) := by
  intro b hb ps q
  cases o with
  | lst ds => obtain ⟨rfl, vs, e, _⟩ := h; simp at hb; subst hb; rw [e] at q; cases q
  | dic ks ds => obtain ⟨rfl, _, _, e, _⟩ := h; simp at hb; subst hb; rw [e] at q; cases q
  | ins c fs ds =>
    obtain ⟨dx, vs, rfl, e, e2, _⟩ := h
    simp at hb
    rcases hb with rfl | rfl
    · rw [e] at q; cases q
    · rw [e2] at q; cases q
  | drw s =>
    obtain ⟨aw, ac, rfl, e, e2, e3⟩ := h
    simp at hb
    rcases hb with rfl | rfl | rfl
    · rw [e] at q; cases q
    · rw [e2] at q; cases q
    · rw [e3] at q; cases q
/-- the objects of fp stand as they stood, F grows -/
theorem OwnR.keep {Z : Wd} {F F' H H' : Hp} {p : Addr} {fp : List Addr} {o : Ob} (h : OwnR Z F H p fp o) (s : Sub F F') (k : ∀ b ∈ fp, ∀ u, H b = some u → NT u → H' b = some u) : OwnR Z F' H' p fp o := by
  have hp := h.mem
  cases o with
  | lst ds => obtain ⟨e, vs, e1, l⟩ := h; exact ⟨e, vs, k _ hp _ e1 (fun _ z => nomatch z), l.mono s⟩
  | dic ks ds => obtain ⟨e, qs, vs, e1, e2, e3, e4, l⟩ := h; exact ⟨e, qs, vs, k _ hp _ e1 (fun _ z => nomatch z), e2, e3, e4, l.mono s⟩
  | ins c fs ds => obtain ⟨dx, vs, e, e1, e2, e3, l⟩ := h; exact ⟨dx, vs, e, k _ hp _ e1 (fun _ z => nomatch z), k _ (by rw [e]; simp) _ e2 (fun _ z => nomatch z), e3, l.mono s⟩
  | drw st => obtain ⟨aw, ac, e, e1, e2, e3⟩ := h; exact ⟨aw, ac, e, k _ hp _ e1 (fun _ z => nomatch z), k _ (by rw [e]; simp) _ e2 (fun _ z => nomatch z), k _ (by rw [e]; simp) _ e3 (fun _ z => nomatch z)⟩
/-- what a def starts from: the frozen heap, the heap, where its io arguments stand (slot by slot) -/
structure Base where
  F0 : Hp
  H0 : Hp
  io : List (Option (Addr × List Addr))
  /-- objects under way, that no name holds yet -/
  ex : List Addr
abbrev Sg := L2.St
abbrev IoJ := List (Option (Addr × List Addr))
/-- the slots: J tells the io ones; O the owned objects -/
inductive SlR (Z : Wd) (H0 F H : Hp) : Sg → Env → IoJ → List Addr → Prop where
  | nil : SlR Z H0 F H [] [] [] []
  | un {x : Option VV} {σ : Sg} {ρ : Env} {J : IoJ} {O : List Addr} : SlR Z H0 F H σ ρ J O → SlR Z H0 F H (x :: σ) (Slot.un :: ρ) (none :: J) O
  | val {v : VV} {d : D} {σ : Sg} {ρ : Env} {J : IoJ} {O : List Addr} : Rp Z F v d → SlR Z H0 F H σ ρ J O → SlR Z H0 F H (some v :: σ) (Slot.val d :: ρ) (none :: J) O
  | own {p : Addr} {fp : List Addr} {o : Ob} {σ : Sg} {ρ : Env} {J : IoJ} {O : List Addr} : Own Z F H p fp o → (∀ b ∈ fp, H0 b = none) → (∀ b ∈ fp, b ∉ O) → SlR Z H0 F H σ ρ J O → SlR Z H0 F H (some (L2.V.ref p) :: σ) (Slot.own o false :: ρ) (none :: J) (fp ++ O)
  | io {p : Addr} {fp : List Addr} {o : Ob} {σ : Sg} {ρ : Env} {J : IoJ} {O : List Addr} : Own Z F H p fp o → (∀ b ∈ fp, b ∉ O) → SlR Z H0 F H σ ρ J O → SlR Z H0 F H (some (L2.V.ref p) :: σ) (Slot.own o true :: ρ) (some (p, fp) :: J) (fp ++ O)
/-- F with the objects of fp as they stand in H -/
def frzF (F H : Hp) (fp : List Addr) : Hp := fun b => if b ∈ fp then H b else F b
theorem frzF_in {F H : Hp} {fp : List Addr} {b : Addr} (h : b ∈ fp) : frzF F H fp b = H b := by unfold frzF; rw [if_pos h]
theorem frzF_out {F H : Hp} {fp : List Addr} {b : Addr} (h : b ∉ fp) : frzF F H fp b = F b := by unfold frzF; rw [if_neg h]
theorem frzF_sub {Z : Wd} {F H : Hp} {p : Addr} {fp : List Addr} {o : Ob} (h : Own Z F H p fp o) : Sub F (frzF F H fp) := fun a u e => by
  by_cases ha : a ∈ fp
  · rw [h.nf a ha] at e; cases e
  · rw [frzF_out ha]; exact e
theorem frzF_le {F H : Hp} {fp : List Addr} (h : Sub F H) : Sub (frzF F H fp) H := fun a u e => by
  by_cases ha : a ∈ fp
  · rw [frzF_in ha] at e; exact e
  · rw [frzF_out ha] at e; exact h _ _ e
theorem Own.freeze {Z : Wd} {F H : Hp} {p : Addr} {fp : List Addr} {o : Ob} {d : D} (h : Own Z F H p fp o) (hd : frz o = some d) : Rp Z (frzF F H fp) (.ref p) d := by
  have s := frzF_sub h
  have hp := h.r.mem
  cases o with
  | lst ds =>
    obtain ⟨_, vs, e, l⟩ := h.r
    cases hd
    exact .lst (by rw [frzF_in hp]; exact e) (l.mono s)
  | dic ks ds =>
    obtain ⟨_, qs, vs, e, e2, e3, e4, l⟩ := h.r
    cases hd
    subst e4
    exact .dic (by rw [frzF_in hp]; exact e) e2 e3 (l.mono s)
  | ins c fs ds =>
    obtain ⟨dx, vs, ef, e, e2, e3, l⟩ := h.r
    cases hd
    exact .ins (by rw [frzF_in hp]; exact e) (by rw [frzF_in (by rw [ef]; simp)]; exact e2) e3 (l.mono s)
  | drw st => cases hd
section
variable {Z : Wd} {H0 F F' H H' : Hp} {σ : Sg} {ρ : Env} {J : IoJ} {O : List Addr} {i : Nat} {d : D} {o : Ob} {m : Bool}
theorem SlR.len (h : SlR Z H0 F H σ ρ J O) : σ.length = ρ.length ∧ J.length = ρ.length := by
  induction h with
  | nil => exact ⟨rfl, rfl⟩
  | un _ ih => exact ⟨congrArg (· + 1) ih.1, congrArg (· + 1) ih.2⟩
  | val _ _ ih => exact ⟨congrArg (· + 1) ih.1, congrArg (· + 1) ih.2⟩
  | own _ _ _ _ ih => exact ⟨congrArg (· + 1) ih.1, congrArg (· + 1) ih.2⟩
  | io _ _ _ ih => exact ⟨congrArg (· + 1) ih.1, congrArg (· + 1) ih.2⟩
theorem SlR.keep (s : Sub F F') (h : SlR Z H0 F H σ ρ J O) : (∀ b ∈ O, ∀ u, H b = some u → NT u → H' b = some u) → (∀ b ∈ O, F' b = none) → SlR Z H0 F' H' σ ρ J O := by
  induction h with
  | nil => intro _ _; exact .nil
  | un _ ih => intro a b; exact .un (ih a b)
  | val r _ ih => intro a b; exact .val (r.mono s) (ih a b)
  | own w f n _ ih =>
    intro a b
    exact .own ⟨w.r.keep s fun c hc => a c (List.mem_append_left _ hc), fun c hc => b c (List.mem_append_left _ hc), w.nd⟩ f n (ih (fun c hc => a c (List.mem_append_right _ hc)) fun c hc => b c (List.mem_append_right _ hc))
  | io w n _ ih =>
    intro a b
    exact .io ⟨w.r.keep s fun c hc => a c (List.mem_append_left _ hc), fun c hc => b c (List.mem_append_left _ hc), w.nd⟩ n (ih (fun c hc => a c (List.mem_append_right _ hc)) fun c hc => b c (List.mem_append_right _ hc))
theorem SlR.there (h : SlR Z H0 F H σ ρ J O) : ∀ b ∈ O, H b ≠ none ∧ F b = none := by
  induction h with
  | nil => intro b hb; cases hb
  | un _ ih => exact ih
  | val _ _ ih => exact ih
  | own w _ _ _ ih =>
    intro b hb
    rcases List.mem_append.mp hb with hb | hb
    · exact ⟨w.r.there b hb, w.nf b hb⟩
    · exact ih b hb
  | io w _ _ ih =>
    intro b hb
    rcases List.mem_append.mp hb with hb | hb
    · exact ⟨w.r.there b hb, w.nf b hb⟩
    · exact ih b hb
/-- the objects of the io arguments are owned -/
theorem SlR.ios (h : SlR Z H0 F H σ ρ J O) : ∀ p fp, some (p, fp) ∈ J → ∀ b ∈ fp, b ∈ O := by
  induction h with
  | nil => intro p fp hq; cases hq
  | un _ ih => intro p fp hq; rcases List.mem_cons.mp hq with e | e; · cases e
               exact ih p fp e
  | val _ _ ih => intro p fp hq; rcases List.mem_cons.mp hq with e | e; · cases e
                  exact ih p fp e
  | own _ _ _ _ ih => intro p fp hq; rcases List.mem_cons.mp hq with e | e; · cases e
                      exact fun b hb => List.mem_append_right _ (ih p fp e b hb)
  | io _ _ _ ih =>
    intro p fp hq
    rcases List.mem_cons.mp hq with e | e
    · cases e
      exact fun b hb => List.mem_append_left _ hb
    · exact fun b hb => List.mem_append_right _ (ih p fp e b hb)
theorem SlR.val_at (h : SlR Z H0 F H σ ρ J O) : ∀ {i : Nat}, ρ[i]? = some (.val d) → ∃ v, σ[i]? = some (some v) ∧ Rp Z F v d := by
  induction h with
  | nil => intro i e; simp at e
  | un _ ih => intro i e; cases i with
    | zero => simp at e
    | succ i => exact ih (by simpa using e)
  | val r _ ih => intro i e; cases i with
    | zero => simp at e; subst e; exact ⟨_, rfl, r⟩
    | succ i => exact ih (by simpa using e)
  | own _ _ _ _ ih => intro i e; cases i with
    | zero => simp at e
    | succ i => exact ih (by simpa using e)
  | io _ _ _ ih => intro i e; cases i with
    | zero => simp at e
    | succ i => exact ih (by simpa using e)
theorem SlR.own_at (h : SlR Z H0 F H σ ρ J O) : ∀ {i : Nat}, ρ[i]? = some (.own o m) → ∃ p fp, σ[i]? = some (some (L2.V.ref p)) ∧ Own Z F H p fp o ∧ (∀ b ∈ fp, b ∈ O) ∧ (m = false → ∀ b ∈ fp, H0 b = none) := by
  induction h with
  | nil => intro i e; simp at e
  | un _ ih => intro i e; cases i with
    | zero => simp at e
    | succ i => exact ih (by simpa using e)
  | val r _ ih => intro i e; cases i with
    | zero => simp at e
    | succ i => exact ih (by simpa using e)
  | own w f n _ ih => intro i e; cases i with
    | zero =>
      simp at e
      obtain ⟨rfl, rfl⟩ := e
      exact ⟨_, _, rfl, w, fun b hb => List.mem_append_left _ hb, fun _ => f⟩
    | succ i =>
      obtain ⟨p, fp, a, b, c, d⟩ := ih (i := i) (by simpa using e)
      exact ⟨p, fp, a, b, fun x hx => List.mem_append_right _ (c x hx), d⟩
  | io w n _ ih => intro i e; cases i with
    | zero =>
      simp at e
      obtain ⟨rfl, rfl⟩ := e
      exact ⟨_, _, rfl, w, fun b hb => List.mem_append_left _ hb, fun z => by cases z⟩
    | succ i =>
      obtain ⟨p, fp, a, b, c, d⟩ := ih (i := i) (by simpa using e)
      exact ⟨p, fp, a, b, fun x hx => List.mem_append_right _ (c x hx), d⟩
/-- an owned slot taken out: the others stand -/
theorem SlR.drop_at (h : SlR Z H0 F H σ ρ J O) : ∀ {i : Nat}, ρ[i]? = some (.own o false) → ∃ p fp O', σ[i]? = some (some (L2.V.ref p)) ∧ Own Z F H p fp o ∧ (∀ b ∈ fp, b ∈ O) ∧ (∀ b ∈ fp, H0 b = none) ∧ (∀ b ∈ O', b ∈ O) ∧ (∀ b ∈ fp, b ∉ O') ∧ SlR Z H0 F H σ (ρ.set i .un) J O' := by
  induction h with
  | nil => intro i e; simp at e
  | un _ ih => intro i e; cases i with
    | zero => simp at e
    | succ i =>
      obtain ⟨p, fp, O', a, b, c, d, f, g, k⟩ := ih (i := i) (by simpa using e)
      exact ⟨p, fp, O', a, b, c, d, f, g, .un k⟩
  | val r _ ih => intro i e; cases i with
    | zero => simp at e
    | succ i =>
      obtain ⟨p, fp, O', a, b, c, d, f, g, k⟩ := ih (i := i) (by simpa using e)
      exact ⟨p, fp, O', a, b, c, d, f, g, .val r k⟩
  | own w f n q ih => intro i e; cases i with
    | zero =>
      simp at e
      subst e
      exact ⟨_, _, _, rfl, w, fun b hb => List.mem_append_left _ hb, f, fun b hb => List.mem_append_right _ hb, n, .un q⟩
    | succ i =>
      obtain ⟨p, fp, O', a, b, c, d, f', g, k⟩ := ih (i := i) (by simpa using e)
      refine ⟨p, fp, _ ++ O', a, b, fun x hx => List.mem_append_right _ (c x hx), d, fun x hx => ?_, fun x hx hz => ?_, .own w f (fun x hx hz => n x hx (f' x hz)) k⟩
      · rcases List.mem_append.mp hx with hx | hx
        · exact List.mem_append_left _ hx
        · exact List.mem_append_right _ (f' x hx)
      · rcases List.mem_append.mp hz with hz | hz
        · exact n x hz (c x hx)
        · exact g x hx hz
  | io w n q ih => intro i e; cases i with
    | zero => simp at e
    | succ i =>
      obtain ⟨p, fp, O', a, b, c, d, f', g, k⟩ := ih (i := i) (by simpa using e)
      refine ⟨p, fp, _ ++ O', a, b, fun x hx => List.mem_append_right _ (c x hx), d, fun x hx => ?_, fun x hx hz => ?_, .io w (fun x hx hz => n x hx (f' x hz)) k⟩
      · rcases List.mem_append.mp hx with hx | hx
        · exact List.mem_append_left _ hx
        · exact List.mem_append_right _ (f' x hx)
      · rcases List.mem_append.mp hz with hz | hz
        · exact n x hz (c x hx)
        · exact g x hx hz
/-- an empty slot is filled -/
theorem SlR.fill_val {v : VV} (hv : Rp Z F v d) (h : SlR Z H0 F H σ ρ J O) : ∀ {i : Nat}, ρ[i]? = some .un → SlR Z H0 F H (σ.set i (some v)) (ρ.set i (.val d)) J O := by
  induction h with
  | nil => intro i e; simp at e
  | un q ih => intro i e; cases i with
    | zero => exact .val hv q
    | succ i => exact .un (ih (by simpa using e))
  | val r q ih => intro i e; cases i with
    | zero => simp at e
    | succ i => exact .val r (ih (by simpa using e))
  | own w f n q ih => intro i e; cases i with
    | zero => simp at e
    | succ i => exact .own w f n (ih (by simpa using e))
  | io w n q ih => intro i e; cases i with
    | zero => simp at e
    | succ i => exact .io w n (ih (by simpa using e))
theorem SlR.fill_own {p : Addr} {fp : List Addr} (hv : Own Z F H p fp o) (f0 : ∀ b ∈ fp, H0 b = none) (h : SlR Z H0 F H σ ρ J O) : (∀ b ∈ fp, b ∉ O) → ∀ {i : Nat}, ρ[i]? = some .un → ∃ O', (∀ b, b ∈ O' ↔ b ∈ fp ∨ b ∈ O) ∧ SlR Z H0 F H (σ.set i (some (L2.V.ref p))) (ρ.set i (.own o false)) J O' := by
  induction h with
  | nil => intro _ i e; simp at e
  | un q ih => intro n i e; cases i with
    | zero => exact ⟨_, fun b => List.mem_append, .own hv f0 n q⟩
    | succ i =>
      obtain ⟨O', a, b⟩ := ih n (i := i) (by simpa using e)
      exact ⟨O', a, .un b⟩
  | val r q ih => intro n i e; cases i with
    | zero => simp at e
    | succ i =>
      obtain ⟨O', a, b⟩ := ih n (i := i) (by simpa using e)
      exact ⟨O', a, .val r b⟩
  | own w f m q ih => intro n i e; cases i with
    | zero => simp at e
    | succ i =>
      obtain ⟨O', a, b⟩ := ih (fun x hx hz => n x hx (List.mem_append_right _ hz)) (i := i) (by simpa using e)
      refine ⟨_ ++ O', fun x => ?_, .own w f (fun x hx hz => ?_) b⟩
      · rw [List.mem_append, List.mem_append, a]
        exact ⟨fun h => h.elim (fun h => .inr (.inl h)) fun h => h.elim .inl fun h => .inr (.inr h), fun h => h.elim (fun h => .inr (.inl h)) fun h => h.elim .inl fun h => .inr (.inr h)⟩
      · rcases (a x).mp hz with hz | hz
        · exact n x hz (List.mem_append_left _ hx)
        · exact m x hx hz
  | io w m q ih => intro n i e; cases i with
    | zero => simp at e
    | succ i =>
      obtain ⟨O', a, b⟩ := ih (fun x hx hz => n x hx (List.mem_append_right _ hz)) (i := i) (by simpa using e)
      refine ⟨_ ++ O', fun x => ?_, .io w (fun x hx hz => ?_) b⟩
      · rw [List.mem_append, List.mem_append, a]
        exact ⟨fun h => h.elim (fun h => .inr (.inl h)) fun h => h.elim .inl fun h => .inr (.inr h), fun h => h.elim (fun h => .inr (.inl h)) fun h => h.elim .inl fun h => .inr (.inr h)⟩
      · rcases (a x).mp hz with hz | hz
        · exact n x hz (List.mem_append_left _ hx)
        · exact m x hx hz
/-- a value slot is emptied -/
theorem SlR.free_at (h : SlR Z H0 F H σ ρ J O) : ∀ {i : Nat}, ρ[i]? = some (.val d) → SlR Z H0 F H σ (ρ.set i .un) J O := by
  induction h with
  | nil => intro i e; simp at e
  | un q ih => intro i e; cases i with
    | zero => simp at e
    | succ i => exact .un (ih (by simpa using e))
  | val r q ih => intro i e; cases i with
    | zero => exact .un q
    | succ i => exact .val r (ih (by simpa using e))
  | own w f n q ih => intro i e; cases i with
    | zero => simp at e
    | succ i => exact .own w f n (ih (by simpa using e))
  | io w n q ih => intro i e; cases i with
    | zero => simp at e
    | succ i => exact .io w n (ih (by simpa using e))
/-- an owned object is changed in its place -/
theorem SlR.chg_at {o' : Ob} (h : SlR Z H0 F H σ ρ J O) : ∀ {i : Nat}, ρ[i]? = some (.own o m) → (∀ p fp, σ[i]? = some (some (L2.V.ref p)) → Own Z F H p fp o → (∀ b ∈ fp, b ∈ O) → Own Z F H' p fp o' ∧ ∀ b, b ∉ fp → ∀ u, H b = some u → NT u → H' b = some u) → SlR Z H0 F H' σ (ρ.set i (.own o' m)) J O := by
  induction h with
  | nil => intro i e; simp at e
  | un q ih => intro i e k; cases i with
    | zero => simp at e
    | succ i => exact .un (ih (by simpa using e) fun p fp a b => k p fp (by simpa using a) b)
  | val r q ih => intro i e k; cases i with
    | zero => simp at e
    | succ i => exact .val r (ih (by simpa using e) fun p fp a b => k p fp (by simpa using a) b)
  | own w f n q ih => intro i e k; cases i with
    | zero =>
      simp at e
      obtain ⟨rfl, rfl⟩ := e
      obtain ⟨w', kp⟩ := k _ _ rfl w fun b hb => List.mem_append_left _ hb
      exact .own w' f n (q.keep Sub.rfl (fun b hb u e n1 => kp b (fun z => n b z hb) u e n1) fun b hb => (q.there b hb).2)
    | succ i =>
      have q' := q
      refine .own ?_ f n (ih (i := i) (by simpa using e) fun p fp a b c => k p fp (by simpa using a) b fun x hx => List.mem_append_right _ (c x hx))
      obtain ⟨p, fp, a, b, c, _⟩ := q'.own_at (i := i) (by simpa using e)
      obtain ⟨_, kp⟩ := k p fp (by simpa using a) b fun x hx => List.mem_append_right _ (c x hx)
      exact ⟨w.r.keep Sub.rfl fun x hx u e n1 => kp x (fun z => n x hx (c x z)) u e n1, w.nf, w.nd⟩
  | io w n q ih => intro i e k; cases i with
    | zero =>
      simp at e
      obtain ⟨rfl, rfl⟩ := e
      obtain ⟨w', kp⟩ := k _ _ rfl w fun b hb => List.mem_append_left _ hb
      exact .io w' n (q.keep Sub.rfl (fun b hb u e n1 => kp b (fun z => n b z hb) u e n1) fun b hb => (q.there b hb).2)
    | succ i =>
      have q' := q
      refine .io ?_ n (ih (i := i) (by simpa using e) fun p fp a b c => k p fp (by simpa using a) b fun x hx => List.mem_append_right _ (c x hx))
      obtain ⟨p, fp, a, b, c, _⟩ := q'.own_at (i := i) (by simpa using e)
      obtain ⟨_, kp⟩ := k p fp (by simpa using a) b fun x hx => List.mem_append_right _ (c x hx)
      exact ⟨w.r.keep Sub.rfl fun x hx u e n1 => kp x (fun z => n x hx (c x z)) u e n1, w.nf, w.nd⟩
end
/-- the state in a def's body -/
structure Sx (Z : Wd) (B : Base) (F H : Hp) (σ : Sg) (ρ : Env) (O : List Addr) : Prop where
  fh : Sub F H
  f0 : Sub B.F0 F
  h0 : ∀ b o, (∀ p fp, some (p, fp) ∈ B.io → b ∉ fp) → B.H0 b = some o → NT o → H b = some o
  tb : Tbs Z.cls.T F H
  ht : ∀ P ps, B.H0 P = some (.tbl ps) → ∃ ps', H P = some (.tbl ps')
  fn : ∀ b, F b ≠ none → B.F0 b = none → B.H0 b = none
  sl : SlR Z B.H0 F H σ ρ B.io O
  pr : ∀ b ∈ B.ex, H b ≠ none ∧ F b = none ∧ b ∉ O
/-- nothing that stands is changed; what is frozen anew is new -/
structure Gr (T : List (Addr × Str)) (F H F' H' : Hp) : Prop where
  ff : Sub F F'
  hh : ∀ b o, H b = some o → NT o → H' b = some o
  fh : Sub F' H'
  fn : ∀ b, F' b ≠ none → F b = none → H b = none
  tb : Tbs T F H → Tbs T F' H'
  ht : ∀ P ps, H P = some (.tbl ps) → ∃ ps', H' P = some (.tbl ps')
theorem Gr.of {T : List (Addr × Str)} {F H F' H' : Hp} (ff : Sub F F') (hh : Sub H H') (fh : Sub F' H') (fn : ∀ b, F' b ≠ none → F b = none → H b = none) : Gr T F H F' H' :=
  ⟨ff, fun b o e _ => hh b o e, fh, fn, fun t p hp => (t p hp).mono ff (fun n => by
    cases q : F' p.1 with
    | none => rfl
    | some o => exact absurd (fn p.1 (by rw [q]; simp) (t p hp).1) n) fun ps e => hh _ _ e, fun P ps e => ⟨ps, hh _ _ e⟩⟩
theorem Gr.there {T : List (Addr × Str)} {F H F' H' : Hp} (g : Gr T F H F' H') {b : Addr} (h : H b ≠ none) : H' b ≠ none := by
  cases q : H b with
  | none => exact absurd q h
  | some o =>
    by_cases n : NT o
    · rw [g.hh b o q n]; simp
    · have : ∃ ps, o = .tbl ps := Classical.byContradiction fun z => n fun ps e => z ⟨ps, e⟩
      obtain ⟨ps, rfl⟩ := this
      obtain ⟨ps', e⟩ := g.ht b ps q
      rw [e]; simp
section
variable {Z : Wd} {B : Base} {F F' H H' : Hp} {σ : Sg} {ρ : Env} {O : List Addr}
theorem Sx.new (h : Sx Z B F H σ ρ O) {b : Addr} (e : H b = none) : B.H0 b = none := by
  cases q : B.H0 b with
  | none => rfl
  | some o =>
    by_cases z : ∃ p fp, some (p, fp) ∈ B.io ∧ b ∈ fp
    · obtain ⟨p, fp, a, c⟩ := z
      exact absurd e ((h.sl.there b (h.sl.ios p fp a b c)).1)
    · by_cases n : NT o
      · rw [h.h0 b o (fun p fp a c => z ⟨p, fp, a, c⟩) q n] at e
        cases e
      · have : ∃ ps, o = .tbl ps := Classical.byContradiction fun z => n fun ps e => z ⟨ps, e⟩
        obtain ⟨ps, rfl⟩ := this
        obtain ⟨ps', e'⟩ := h.ht b ps q
        rw [e'] at e; cases e
theorem Sx.new_O (h : Sx Z B F H σ ρ O) {b : Addr} (e : H b = none) : b ∉ O := fun z => (h.sl.there b z).1 e
theorem Gr.nF {T : List (Addr × Str)} (g : Gr T F H F' H') {b : Addr} (f : F b = none) (e : H b ≠ none) : F' b = none := by
  cases q : F' b with
  | none => rfl
  | some o => exact absurd (g.fn b (by rw [q]; simp) f) e
theorem Sx.grow (h : Sx Z B F H σ ρ O) (g : Gr Z.cls.T F H F' H') : Sx Z B F' H' σ ρ O where
  fh := g.fh
  f0 := h.f0.tr g.ff
  h0 := fun b o n e n1 => g.hh b o (h.h0 b o n e n1) n1
  tb := g.tb h.tb
  ht := fun P ps e => let ⟨ps', e'⟩ := h.ht P ps e; g.ht P ps' e'
  fn := fun b n e => by
    cases q : F b with
    | none => exact h.new (g.fn b n q)
    | some o => exact h.fn b (by rw [q]; simp) e
  sl := h.sl.keep g.ff (fun b hb u e n => g.hh b u e n) fun b hb => g.nF (h.sl.there b hb).2 (h.sl.there b hb).1
  pr := fun b hb => by
    obtain ⟨h1, h2, h3⟩ := h.pr b hb
    exact ⟨g.there h1, g.nF h2 h1, h3⟩
/-- a new object that nothing names is let go -/
theorem Sx.freeze {p : Addr} {fp : List Addr} {o : Ob} (h : Sx Z B F H σ ρ O) (w : Own Z F H p fp o) (n : ∀ b ∈ fp, B.H0 b = none) (no : ∀ b ∈ fp, b ∉ O) (nx : ∀ b ∈ fp, b ∉ B.ex) : Sx Z B (frzF F H fp) H σ ρ O where
  fh := frzF_le h.fh
  f0 := h.f0.tr (frzF_sub w)
  h0 := h.h0
  tb := fun p hp => (h.tb p hp).mono (frzF_sub w) (fun _ => by
    rw [frzF_out fun hb => ?_]
    · exact (h.tb p hp).1
    · obtain ⟨_, ps, e, _⟩ := h.tb p hp
      exact w.r.nt _ hb ps e) fun _ e => e
  ht := h.ht
  fn := fun b e f => by
    by_cases hb : b ∈ fp
    · exact n b hb
    · rw [frzF_out hb] at e
      exact h.fn b e f
  sl := h.sl.keep (frzF_sub w) (fun _ _ _ e _ => e) fun b hb => by
    rw [frzF_out fun z => no b z hb]
    exact (h.sl.there b hb).2
  pr := fun b hb => by
    obtain ⟨h1, h2, h3⟩ := h.pr b hb
    refine ⟨h1, ?_, h3⟩
    rw [frzF_out fun z => nx b z hb]
    exact h2
/-- what is under way is changed -/
theorem Sx.chg_ex {p : Addr} {o : HO} (h : Sx Z B F H σ ρ O) (hp : p ∈ B.ex) (n : B.H0 p = none) (hx : ∃ u, H p = some u ∧ NT u) : Sx Z B F (upd H p o) σ ρ O where
  fh := fun a u e => by
    rw [upd_ne fun z => by subst z; rw [(h.pr a hp).2.1] at e; cases e]
    exact h.fh a u e
  f0 := h.f0
  h0 := fun b u k e n1 => by
    rw [upd_ne fun z => by subst z; rw [n] at e; cases e]
    exact h.h0 b u k e n1
  tb := fun p hp => (h.tb p hp).mono Sub.rfl (fun _ => (h.tb p hp).1) fun ps e => by
    rw [upd_ne fun z => by rw [z] at e; obtain ⟨u, e1, e2⟩ := hx; rw [e1] at e; exact e2 ps (Option.some.inj e)]
    exact e
  ht := fun P ps e => by
    rw [upd_ne fun z => by subst z; rw [n] at e; cases e]
    exact h.ht P ps e
  fn := h.fn
  sl := h.sl.keep Sub.rfl (fun b hb u e _ => by
    rw [upd_ne fun z => by subst z; exact (h.pr b hp).2.2 hb]
    exact e) fun b hb => (h.sl.there b hb).2
  pr := fun b hb => by
    obtain ⟨h1, h2, h3⟩ := h.pr b hb
    refine ⟨fun z => ?_, h2, h3⟩
    by_cases e : b = p
    · subst e; rw [upd_same] at z; cases z
    · rw [upd_ne e] at z; exact h1 z
/-- a thing more, a thing less under way -/
def Base.more (B : Base) (p : Addr) : Base := { B with ex := p :: B.ex }
theorem Sx.less {p : Addr} (h : Sx Z (B.more p) F H σ ρ O) : Sx Z B F H σ ρ O := ⟨h.fh, h.f0, h.h0, h.tb, h.ht, h.fn, h.sl, fun b hb => h.pr b (List.mem_cons_of_mem _ hb)⟩
theorem Sx.more {p : Addr} (h : Sx Z B F H σ ρ O) (h1 : H p ≠ none) (h2 : F p = none) (h3 : p ∉ O) : Sx Z (B.more p) F H σ ρ O := ⟨h.fh, h.f0, h.h0, h.tb, h.ht, h.fn, h.sl, fun b hb => by
  rcases List.mem_cons.mp hb with e | e
  · subst e; exact ⟨h1, h2, h3⟩
  · exact h.pr b e⟩
end
end Py
set_option Elab.async false
set_option linter.all false
set_option maxRecDepth 100000
set_option maxHeartbeats 4000000
/-! PyLe: try .. except X as n, where the exception that was caught is tracked from then on. -/
namespace Py
open PySem PySem.Spec L2 PyProof.Rows
section
variable {X : Cx} {pins : List (Addr × Obj)} {σ : L2.St} {H : Hp} {sI s s' : Shared} {B : Heap}
/-- back on the ground: the exception at a is an object of ours -/
theorem landedT {a : Addr} {o : HO} (I : Inv X pins σ H sI) (nb : ∀ b o, sI.heap.get? b = some o → b ∉ frs X.stack → B.get? b = some o) (st : B.StaysIn s'.heap) (up : sI.heap.UpToSlots s'.heap) (os : s'.os = sI.os) (ag : AllBare s'.gens)
    (hne : sI.heap.get? a = none) (na : H a = none) (new : ObjOk X.prog X.w (upd H a o) s'.heap a o) : Inv X pins σ (upd H a o) s' := by
  have nf : ∀ b ∈ frs X.stack, ∀ o, sI.heap.get? b = some o → ∃ sl, s'.heap.get? b = some { o with slots := sl } := fun b hb o e => by
    obtain ⟨_, o', e', hd⟩ := I.stack.mem hb
    rw [e] at e'; cases e'
    exact up b o e hd
  have ne : ∀ b o, sI.heap.get? b = some o → b ≠ a := fun b o e z => by rw [z, hne] at e; cases e
  have nh : ∀ b o, H b = some o → b ≠ a := fun b o e z => by rw [z, na] at e; cases e
  have J := I.call (ch := []) (h' := s'.heap) (g' := s'.gens) (t' := s'.toks) (d' := s'.drawn) (H' := upd H a o)
    ⟨fun b o e _ hb _ => st b o (nb b o e hb), fun b o e _ hb _ => nf b hb o e, fun b o e n _ => by rw [upd_ne (ne b o e)]; exact n, fun b o e _ => by
      by_cases hb : b ∈ frs X.stack
      · obtain ⟨sl, q⟩ := nf b hb o e
        exact ⟨_, q⟩
      · exact ⟨o, st b o (nb b o e hb)⟩, fun b _ e => by rw [upd_ne (nh b _ e)]; exact e, fun b _ _ e => by rw [upd_ne (nh b _ e)]; exact e, fun b ps e => ⟨#[], by rw [upd_ne (nh b _ e), e]; simp⟩⟩
    (fun b u e => by
      by_cases hb : b = a
      · subst hb
        rw [upd_same] at e
        cases e
        exact new
      · rw [upd_ne hb] at e
        refine (((I.inGround nb).kept st) b u e).stay (fun c v _ q => q) (fun c q => by rw [upd_ne (nh c _ q)]; exact q) fun c xs q => by rw [upd_ne (nh c _ q)]; exact q) ag (fun _ z => nomatch z)
  obtain ⟨a1, a2, a3, a4, a5⟩ := s'
  have e5 : a5 = sI.os := os
  subst e5
  exact J
theorem Inv.suite0 (I : Inv X pins σ H s) (a : Addr) : Inv (X.suite a (X.pn ++ pins)) [] σ H s :=
  ⟨I.ok.suite _ _, I.os, I.bare, I.base, I.loc, I.cell, I.free, I.freeC, fun p hp => I.pin p (by rw [List.append_nil] at hp; exact hp), I.hok, I.len⟩
theorem Inv.unsuite0 {a : Addr} {pn' : List (Addr × Obj)} (I : Inv (X.suite a (X.pn ++ pins)) pn' σ H s) (ok : X.Ok) : Inv X pins σ H s :=
  ⟨ok, I.os, I.bare, I.base, I.loc, I.cell, I.free, I.freeC, fun p hp => I.pin p (List.mem_append_left _ hp), I.hok, I.len⟩
end
/-- what the clause 'except x as n' wishes of an exception of the body: slot i is n's -/
def wAsT (K : PySem.W.Frag) (c : Value) (len i : Nat) (ts : Addr → TS) (D : Ends) : WX := fun cls d σ H =>
  PySem.W.exmOne K cls c = some true ∧ ∃ C, cls = .ref C ∧ (σ.length = len → ∀ a, H a = none → ts a { nx := fun σ' H' => D.nx (σ'.set i none) H', rt := D.rt, bk := fun σ' H' => D.bk (σ'.set i none) H', ct := fun σ' H' => D.ct (σ'.set i none) H' } (σ.set i (some (.ref a))) (upd H a (ExD C d a)))
section
variable {X : Cx} {x n : Str} {c : Value} {i : Nat} {body suite : List Stmt} {b₀ : Stmt} {np pos pos' : Pos} {tb : WX → TS} {ts : Addr → TS}
theorem ps_try_asT (hs : X.stack = X.env :: X.outer) (hf : X.env.frame = some X.env.locals) (hN : X.N.Nodup) (hi : X.N[i]? = some n) (hln : X.env.kindOf n = some .local) (hc : Names X x c)
    (hb : ∀ (W : WX) (pn : List (Addr × Obj)) (xe : Value → Shared → Prop), Takes (X.tr pn xe) W → PassesOwn (model X.prog X.w) X.A X.env xe → PSs (X.tr pn xe) body (tb W))
    (hsu : ∀ (a : Addr) (pn : List (Addr × Obj)), PSs (X.suite a pn) (b₀ :: suite) (ts a)) :
    PS X (.Try body [.ExceptHandler (some (.Name x np)) (some n) (b₀ :: suite) pos'] [] [] pos) (fun D σ H => tb (wAsT X.K c X.N.length i ts D) D σ H) := by
  refine ⟨fun pins s σ H D I h => ?_⟩
  have ok := I.ok
  have hfr : X.A.frames = some (X.env :: X.outer) := by rw [ok.frames, hs]
  have hloc : Loc X.env.scope n := .inl hln
  refine wpAny_Try_except ?_
  refine wpAny_mono ((hb (wAsT X.K c X.N.length i ts D) (X.pn ++ pins) (fun e s₁ => wpAny (model X.prog X.w) X.A (noteFrame e X.env) (fun _ s₂ => wpAny (model X.prog X.w) X.A (setFlight e none) (fun _ s₃ =>
    wpAny (model X.prog X.w) X.A (handleBy e X.env [.ExceptHandler (some (.Name x np)) (some n) (b₀ :: suite) pos']) (SP X pins D) X.xe s₃) X.xe s₂) X.xe s₁) (fun u s' xx => ?_) PassesOwn.looking).run [] s σ H D (I.toTry _) h) (fun f s1 hsp => ?_) (fun e s1 he => he)
  · -- the catch
    obtain ⟨a, B, sI, pins', σ', H', cls, d, rfl, J', nb, up, sky, na, os, ag, hb1, C, rfl, hyes⟩ := xx
    have J : Inv X pins σ' H' sI := J'.ofTry ok
    have sky' : Sky B (X.env :: X.outer) a (Zc (.ref C) d) X.env.locals s'.heap := by rw [← hs]; exact sky
    show wpAny (model X.prog X.w) X.A (noteFrame (.ref a) X.env) _ _ _
    refine Sky.land Zc.steady hfr hf sky' fun h3 fl3 up3 => ?_
    have J3 : Inv X pins σ' H' { s' with heap := h3 } := J.landed nb fl3.1 (up.trans up3) os ag
    obtain ⟨oe3, vs3, he3, hz3, hd3⟩ := fl3.there
    have nfr : a ∉ frs (X.env :: X.outer) := fun hm => by
      obtain ⟨_, o', e', hnf⟩ := fl3.2.2.1.mem hm
      rw [he3] at e'; cases e'
      exact hnf _ hd3
    have hneI : sI.heap.get? a = none := by
      cases q : sI.heap.get? a with
      | none => rfl
      | some o =>
        have z := nb a o q (by rw [hs]; exact nfr)
        rw [fl3.2.1] at z; cases z
    have S3 : Inv (X.suite a (X.pn ++ pins)) [] σ' H' { s' with heap := h3 } := Inv.suite0 J3 a
    refine wpAny_handleBy_cons (codeAny_handlers_test ?_) (by intro q; cases q)
    have LT : PySem.W.Looks (model X.prog X.w) h3 (typeOf (.ref a)) (.ref C) := fun A Q E s k q => wpAny_typeOf_ref (k _ _ he3) (by rw [hz3.1]; exact q)
    have LM := PySem.W.exm_one (M := model X.prog X.w) (J3.kIn) LT hb1
    have test : ∀ {Q : Value → Shared → Prop} {E : Value → Shared → Prop}, Q c { s' with heap := h3 } → wpAny (model X.prog X.w) (X.A.mark (some (.ref a))) (eval (.Name x np) X.env) Q E { s' with heap := h3 } := fun {Q E} q => by
      obtain ⟨hg, hdbg, hm | ⟨hm, hv, hnn⟩⟩ := hc
      · exact ld_glob (X := X.suite a (X.pn ++ pins)) S3 hg hm q hdbg
      · exact ld_blt (X := X.suite a (X.pn ++ pins)) S3 hg hm hv q hnn hdbg
    refine test (LM.here ?_)
    refine codeAny_handlers_suite_as ?_
    refine HandSPX.lands_againZ fl3 fun h4 fl4 up4 => ?_
    obtain ⟨oe4, vs4, he4, hz4, hd4⟩ := fl4.there
    have J4 : Inv X pins σ' (upd H' a (ExD C d a)) { s' with heap := h4 } := landedT J nb fl4.1 ((up.trans up3).trans up4) os ag hneI na (exD_ok he4 hz4 hd4)
    have S4 := Inv.suite0 J4 a
    refine store_ok (X := X.suite a (X.pn ++ pins)) (v := .ref a) S4 hN hi hloc rfl (fun s5 S5 => ?_) (.inr hln)
    refine wpAny_mono ((hsu a (X.pn ++ pins)).run [] s5 _ _ _ S5 (hyes J.len a na)) (fun f s6 hsp => ?_) (fun _ _ z => False.elim z)
    have end_ : ∀ {σ6 : L2.St} {H6 : Hp} {Q : Shared → Prop}, Inv (X.suite a (X.pn ++ pins)) [] σ6 H6 s6 → (∀ s7, Inv X pins (σ6.set i none) H6 s7 → Q s7) →
        wpAny (model X.prog X.w) X.A (do bindName X.env n .none; unbindBehindTheSuite X.env n pos') (fun _ s7 => Q s7) X.xe s6 := fun {σ6 H6 Q} S6 hq => gone_ok (Inv.unsuite0 S6 ok) hN hi hln hq
    cases f with
    | next =>
      obtain ⟨σ6, H6, S6, q6⟩ := hsp
      exact end_ S6 fun s7 J7 => ⟨_, _, J7, q6⟩
    | brk =>
      obtain ⟨σ6, H6, S6, q6⟩ := hsp
      exact end_ S6 fun s7 J7 => ⟨_, _, J7, q6⟩
    | cont =>
      obtain ⟨σ6, H6, S6, q6⟩ := hsp
      exact end_ S6 fun s7 J7 => ⟨_, _, J7, q6⟩
    | ret u =>
      obtain ⟨v6, σ6, H6, S6, r6, q6⟩ := hsp
      exact end_ S6 fun s7 J7 => ⟨_, _, _, J7, r6, q6⟩
  · cases f with
    | next =>
      obtain ⟨σ', H', J', q⟩ := hsp
      exact wpAny_execs_nil ⟨σ', H', J'.ofTry ok, q⟩
    | brk =>
      obtain ⟨σ', H', J', q⟩ := hsp
      exact ⟨σ', H', J'.ofTry ok, q⟩
    | cont =>
      obtain ⟨σ', H', J', q⟩ := hsp
      exact ⟨σ', H', J'.ofTry ok, q⟩
    | ret u =>
      obtain ⟨v, σ', H', J', r, q⟩ := hsp
      exact ⟨v, σ', H', J'.ofTry ok, r, q⟩
end
/-- error = None; try: a() / except fe as n: e = n; return e -/
def TTerr (K : PySem.W.Frag) (CS : Addr) : (XK → Hp → VK → Prop) → Hp → VK → Prop := fun tl H Q =>
  tl (fun cls d H' => PySem.W.exmOne K cls (.ref CS) = some true ∧ ∃ C, cls = .ref C ∧ ∀ b, H' b = none → Q (.ref b) (upd H' b (ExD C d b))) H (fun _ H' => ∃ v, (some (some V.non) : Option (Option V)) = some (some v) ∧ Q v H')
/-- the body of _law_error -/
def leBody (a e n fe : Str) (j : Nat) (p1 p2 p3 p4 p5 p6 p7 p8 p9 p10 p11 p12 p13 p14 : Pos) : List Stmt :=
  [.Assign [.Name e p1] (.Constant .none j p2) p3, .Try [.Expr (.Call (.Name a p4) [] [] p5) p6] [.ExceptHandler (some (.Name fe p7)) (some n) [.Assign [.Name e p8] (.Name n p9) p10] p11] [] [] p12, .Return (some (.Name e p13)) p14]
theorem lerr_gives {X : Cx} {x a e n fe q : Str} {sg : Scope} {g CS : Addr} {cdg : Value} {j : Nat} {p1 p2 p3 p4 p5 p6 p7 p8 p9 p10 p11 p12 p13 p14 : Pos}
    (hge : sg.names.lookup fe = some .globalImplicit) (hme : X.mg fe = some (.ref CS)) (hde : (fe == ("__debug__" : Str)) = false) (nd : [a, e, n].Nodup) (le : sg.names.lookup e = some .local) (ln : sg.names.lookup n = some .local)
    (d1 : (e == ("__debug__" : Str)) = false := by decide) (d2 : (e == ("__classdict__" : Str)) = false := by decide) (d3 : (n == ("__debug__" : Str)) = false := by decide) (d4 : (n == ("__classdict__" : Str)) = false := by decide) :
    LamX.GivesTo X [a, e, n] x sg g cdg (leBody a e n fe j p1 p2 p3 p4 p5 p6 p7 p8 p9 p10 p11 p12 p13 p14) a q (TTerr X.K CS) := by
  intro f c' s H Q tl act hc h
  let Z := (cxOf C8.CX0 X.prog X.w X.K X.mg X.base [a, e, n] x sg g cdg X.A X.stack s H C8.E0).nox
  have hgl : Gl Z fe := hge
  have Le : Loc Z.env.scope e := .inl le
  have hNe : Z.N[1]? = some e := rfl
  have hNn : Z.N[2]? = some n := rfl
  have s1 : PS Z (.Assign [.Name e p1] (.Constant .none j p2) p3) _ := ps_set (X := Z) nd hNe Le pe_non rfl (.inr le)
  have s3 : PS Z (.Return (some (.Name e p13)) p14) _ := ps_ret (X := Z) (pe_var (X := Z) hNe (.inl le) d1 d2)
  have s2 : PS Z (.Try [.Expr (.Call (.Name a p4) [] [] p5) p6] [.ExceptHandler (some (.Name fe p7)) (some n) [.Assign [.Name e p8] (.Name n p9) p10] p11] [] [] p12) _ :=
    ps_try_asT (X := Z) (i := 2) (c := .ref CS) (ts := fun _ => tAsg (tVar 2) (gName 1))
      (tb := fun W D σ H => ∃ Ech : XK, (∀ cls d σ' H', Ech cls d H' → W cls d σ' H') ∧ σ[0]? = some (some (.ref f)) ∧ H c' = some (LamX.CodeO c' q) ∧ tl Ech H fun _ H' => D.nx σ H')
      rfl rfl nd hNn ln ⟨hgl, hde, .inl hme⟩
      (fun W pn xe tk _ => ⟨fun pins s' σ H' D I ⟨Ech, hW, h1, h2, h3⟩ => (pss_one (ps_expr (X := Z.tr pn xe) (act W pn xe Ech p4 p5 tk hW) rfl)).run pins s' σ H' D I ⟨h1, h2, h3⟩⟩)
      (fun b pn => pss_one (ps_set (X := Z.suite b pn) nd hNe Le (pe_var (X := Z.suite b pn) hNn (.inl ln) d3 d4) rfl (.inr le)))
  refine ⟨_, pss_cons s1 (pss_cons s2 (pss_one s3)), ?_⟩
  refine ⟨fun cls d H' => PySem.W.exmOne X.K cls (.ref CS) = some true ∧ ∃ C, cls = .ref C ∧ ∀ b, H' b = none → Q (.ref b) (upd H' b (ExD C d b)), fun cls d σ' H' ⟨e1, C, e2, e4⟩ => ⟨e1, C, e2, fun hl b hb => ?_⟩, rfl, hc, ?_⟩
  · match σ', hl with
    | [s0, s1, s2], _ => exact ⟨.ref b, rfl, ⟨.ref b, rfl, e4 b hb⟩⟩
  · refine cast ?_ h
    rfl
end Py
set_option Elab.async false
set_option linter.all false
set_option maxRecDepth 100000
set_option maxHeartbeats 4000000
/-! PyC: how what is computed over data is what is run. -/
namespace Py
open PySem PySem.Spec L2
abbrev zd (X : Cx) (cls : Nm) : Wd := ⟨X.K, X.w, cls⟩
/-- from one state to a later one within an expression -/
structure Stp (Z : Wd) (B : Base) (σ : Sg) (F H : Hp) (O : List Addr) (F' H' : Hp) (ρ' : Env) (O' : List Addr) : Prop where
  sx : Sx Z B F' H' σ ρ' O'
  oo : ∀ b ∈ O', b ∈ O
  ff : Sub F F'
  kk : ∀ b o, b ∉ O → H b = some o → NT o → H' b = some o
  tt : ∀ b, H b ≠ none → H' b ≠ none
section
variable {Z : Wd} {B : Base} {σ : Sg} {F H F1 H1 F2 H2 : Hp} {ρ ρ1 ρ2 : Env} {O O1 O2 : List Addr}
theorem Stp.rfl (s : Sx Z B F H σ ρ O) : Stp Z B σ F H O F H ρ O := ⟨s, fun _ h => h, Sub.rfl, fun _ _ _ e _ => e, fun _ h => h⟩
theorem Stp.tr (a : Stp Z B σ F H O F1 H1 ρ1 O1) (b : Stp Z B σ F1 H1 O1 F2 H2 ρ2 O2) : Stp Z B σ F H O F2 H2 ρ2 O2 :=
  ⟨b.sx, fun x h => a.oo x (b.oo x h), a.ff.tr b.ff, fun x o n e n1 => b.kk x o (fun z => n (a.oo x z)) (a.kk x o n e n1) n1, fun x h => b.tt x (a.tt x h)⟩
theorem Stp.gr (s : Sx Z B F H σ ρ O) (g : Gr Z.cls.T F H F1 H1) : Stp Z B σ F H O F1 H1 ρ O :=
  ⟨s.grow g, fun _ h => h, g.ff, fun _ _ _ e n => g.hh _ _ e n, fun b h => g.there h⟩
end
theorem Gr.rfl {T : List (Addr × Str)} {F H : Hp} (s : Sub F H) : Gr T F H F H := Gr.of Sub.rfl Sub.rfl s fun b h e => absurd e h
/-- a new object, frozen at once -/
theorem Gr.new {T : List (Addr × Str)} {F H : Hp} {p : Addr} {o : HO} (s : Sub F H) (n : H p = none) : Gr T F H (upd F p o) (upd H p o) := Gr.of
  (fun a u e => by rw [upd_ne (fun z => by subst z; rw [s _ _ e] at n; cases n)]; exact e)
  (fun a u e => by rw [upd_ne (ne_of_none e n)]; exact e)
  (fun a u e => by
    by_cases h : a = p
    · subst h; rw [upd_same] at e ⊢; exact e
    · rw [upd_ne h] at e ⊢; exact s _ _ e)
  (fun b h e => by
    by_cases q : b = p
    · subst q; exact n
    · rw [upd_ne q] at h; exact absurd e h)
/-- a new object that is owned -/
theorem Gr.own {T : List (Addr × Str)} {F H : Hp} {p : Addr} {o : HO} (s : Sub F H) (n : H p = none) : Gr T F H F (upd H p o) := Gr.of
  Sub.rfl
  (fun a u e => by rw [upd_ne (ne_of_none e n)]; exact e)
  (fun a u e => by rw [upd_ne (ne_of_none (s _ _ e) n)]; exact s _ _ e)
  (fun b h e => absurd e h)
theorem Gr.tr {T : List (Addr × Str)} {F H F1 H1 F2 H2 : Hp} (a : Gr T F H F1 H1) (b : Gr T F1 H1 F2 H2) : Gr T F H F2 H2 where
  ff := a.ff.tr b.ff
  hh := fun x o e n => b.hh x o (a.hh x o e n) n
  fh := b.fh
  fn := fun x h e => by
    cases q : F1 x with
    | none =>
      have := b.fn x h q
      cases r : H x with
      | none => rfl
      | some o => exact absurd this (a.there (by rw [r]; simp))
    | some o => exact a.fn x (by rw [q]; simp) e
  tb := fun t => b.tb (a.tb t)
  ht := fun P ps e => let ⟨ps', e'⟩ := a.ht P ps e; b.ht P ps' e'
theorem sub_none {F H : Hp} (s : Sub F H) {p : Addr} (n : H p = none) : F p = none := by
  cases q : F p with
  | none => rfl
  | some o => rw [s _ _ q] at n; cases n
/-- what comes of W: a value, or a new object at v with what belongs to it (fp) -/
def WR (Z : Wd) (F H : Hp) (v : VV) (fp : List Addr) : W → Prop
  | .val d => Rp Z F v d ∧ fp = []
  | .own o => ∃ p, v = .ref p ∧ Own Z F H p fp o
/-- an exception: its class, its fields -/
def ExR (Z : Wd) (F : Hp) (x : Exn) (cls : Value) (dx : Option Addr) : Prop := cls = .ref (Z.cls x.c) ∧ ((dx = none ∧ x.fs = [] ∧ x.xs = []) ∨ ∃ (d : Addr) (vs : List VV), dx = some d ∧ F d = some (.xd (x.fs.zip vs)) ∧ x.fs.length = vs.length ∧ RpL Z F vs x.xs)
/-- a relation: the frozen heap, the heap, the entry's heap, the slots, what is computed, what is run -/
abbrev Rl (α β : Type) := Hp → Hp → Hp → Env → β → α → Prop
section
variable (Z : Wd) (B : Base) (Wx : WX) {α β : Type} (P : Rl α β)
def EndP (σ : Sg) (F H : Hp) (O : List Addr) (Q : β → Hp → Prop) : R α → Env → Prop
  | .ok a, ρ' => ∀ b F' H' O', Stp Z B σ F H O F' H' ρ' O' → P F' H' H ρ' b a → Q b H'
  | .ex x, ρ' => ∀ F' H' O' cls dx, Stp Z B σ F H O F' H' ρ' O' → ExR Z F' x cls dx → Wx cls dx σ H'
def Run (m : M α) (σ : Sg) (F H : Hp) (ρ : Env) (O : List Addr) (Q : β → Hp → Prop) : Prop := ∃ r ρ', m ρ = some (r, ρ') ∧ EndP Z B Wx P σ F H O Q r ρ'
end
def tM (Z : Wd) (Wx : WX) {α β : Type} (P : Rl α β) (m : M α) : Sg → Hp → (β → Hp → Prop) → Prop := fun σ H Q => ∃ B F ρ O, Sx Z B F H σ ρ O ∧ Run Z B Wx P m σ F H ρ O Q
def pW (Z : Wd) : Rl W VV := fun F' H' H _ v w => ∃ fp, WR Z F' H' v fp w ∧ ∀ b ∈ fp, H b = none
def pD (Z : Wd) : Rl D VV := fun F' _ _ _ v d => Rp Z F' v d
def pL (Z : Wd) : Rl (List D) (List VV) := fun F' _ _ _ vs ds => RpL Z F' vs ds
def pE (α : Type) : Rl α α := fun _ _ _ _ a b => a = b
/-- later relations hang on the entry's heap this way alone -/
def Early {α β : Type} (P : Rl α β) : Prop := ∀ F' H' H H1 ρ' b a, (∀ c, H c ≠ none → H1 c ≠ none) → P F' H' H1 ρ' b a → P F' H' H ρ' b a
theorem early_W (Z : Wd) : Early (pW Z) := fun F' H' H H1 ρ' b a t ⟨fp, h, n⟩ => ⟨fp, h, fun c hc => by
  cases q : H c with
  | none => rfl
  | some o => exact absurd (n c hc) (t c (by rw [q]; simp))⟩
theorem early_D (Z : Wd) : Early (pD Z) := fun _ _ _ _ _ _ _ _ h => h
theorem early_L (Z : Wd) : Early (pL Z) := fun _ _ _ _ _ _ _ _ h => h
theorem early_E (α : Type) : Early (pE α) := fun _ _ _ _ _ _ _ _ h => h
section
variable {Z : Wd} {B : Base} {Wx : WX} {α β γ δ : Type} {P : Rl α β} {P' : Rl γ δ} {m : M α} {f : α → M γ} {σ : Sg} {F H : Hp} {ρ : Env} {O : List Addr}
/-- one thing behind another -/
theorem Run.seq {Q : δ → Hp → Prop} {K : β → Hp → Prop} (e : Early P') (h : Run Z B Wx P' (M.bnd m f) σ F H ρ O Q)
    (k : ∀ a x F1 H1 ρ1 O1, m ρ = some (.ok a, ρ1) → Stp Z B σ F H O F1 H1 ρ1 O1 → P F1 H1 H ρ1 x a → Run Z B Wx P' (f a) σ F1 H1 ρ1 O1 Q → K x H1) : Run Z B Wx P m σ F H ρ O K := by
  obtain ⟨r, ρ', hm, en⟩ := h
  unfold M.bnd at hm
  cases q : m ρ with
  | none => rw [q] at hm; cases hm
  | some pr =>
    obtain ⟨r1, ρ1⟩ := pr
    rw [q] at hm
    cases r1 with
    | ex x =>
      cases hm
      exact ⟨_, _, q, en⟩
    | ok a =>
      refine ⟨_, _, q, fun x F1 H1 O1 st p => k a x F1 H1 ρ1 O1 q st p ⟨r, ρ', hm, ?_⟩⟩
      cases r with
      | ex y => exact fun F' H' O' cls dx st' ex => en F' H' O' cls dx (st.tr st') ex
      | ok c => exact fun b F' H' O' st' p' => en b F' H' O' (st.tr st') (e _ _ _ _ _ _ _ st.tt p')
theorem Run.ret {a : α} {Q : β → Hp → Prop} {b : β} (s : Sx Z B F H σ ρ O) (h : Run Z B Wx P (M.ret a) σ F H ρ O Q) (p : P F H H ρ b a) : Q b H := by
  obtain ⟨r, ρ', hm, en⟩ := h
  cases hm
  exact en b F H O (Stp.rfl s) p
theorem Run.stuck {Q : β → Hp → Prop} (h : Run Z B Wx P (M.stuck : M α) σ F H ρ O Q) : False := by
  obtain ⟨r, ρ', hm, en⟩ := h
  cases hm
theorem Run.lift {o : Option α} {f : α → M γ} {P' : Rl γ δ} {Q : δ → Hp → Prop} (h : Run Z B Wx P' (M.bnd (M.lift o) f) σ F H ρ O Q) : ∃ a, o = some a ∧ Run Z B Wx P' (f a) σ F H ρ O Q := by
  obtain ⟨r, ρ', hm, en⟩ := h
  cases o with
  | none => cases hm
  | some a => exact ⟨a, rfl, r, ρ', hm, en⟩
theorem Run.as {m' : M α} {Q : β → Hp → Prop} (h : Run Z B Wx P m σ F H ρ O Q) (e : m ρ = m' ρ) : Run Z B Wx P m' σ F H ρ O Q := by
  obtain ⟨r, ρ', hm, en⟩ := h
  exact ⟨r, ρ', e ▸ hm, en⟩
/-- the same from a later heap -/
theorem Run.grow {F1 H1 : Hp} {Q : β → Hp → Prop} (e : Early P) (s : Sx Z B F H σ ρ O) (g : Gr Z.cls.T F H F1 H1) (h : Run Z B Wx P m σ F H ρ O Q) : Run Z B Wx P m σ F1 H1 ρ O Q := by
  obtain ⟨r, ρ', hm, en⟩ := h
  refine ⟨r, ρ', hm, ?_⟩
  have st := Stp.gr s g
  cases r with
  | ex y => exact fun F' H' O' cls dx st' ex => en F' H' O' cls dx (st.tr st') ex
  | ok c => exact fun b F' H' O' st' p' => en b F' H' O' (st.tr st') (e _ _ _ _ _ _ _ st.tt p')
/-- with one thing more under way -/
theorem Run.more {p : Addr} {Q : β → Hp → Prop} (h : Run Z B Wx P m σ F H ρ O Q) : Run Z (B.more p) Wx P m σ F H ρ O Q := by
  obtain ⟨r, ρ', hm, en⟩ := h
  refine ⟨r, ρ', hm, ?_⟩
  have less : ∀ {F' H' ρ' O'}, Stp Z (B.more p) σ F H O F' H' ρ' O' → Stp Z B σ F H O F' H' ρ' O' := fun st => ⟨st.sx.less, st.oo, st.ff, st.kk, st.tt⟩
  cases r with
  | ex y => exact fun F' H' O' cls dx st' ex => en F' H' O' cls dx (less st') ex
  | ok c => exact fun b F' H' O' st' p' => en b F' H' O' (less st') p'
theorem Run.imp {Q Q' : β → Hp → Prop} (h : Run Z B Wx P m σ F H ρ O Q) (k : ∀ b F' H' ρ' O' a, m ρ = some (.ok a, ρ') → Stp Z B σ F H O F' H' ρ' O' → P F' H' H ρ' b a → Q b H' → Q' b H') : Run Z B Wx P m σ F H ρ O Q' := by
  obtain ⟨r, ρ', hm, en⟩ := h
  refine ⟨r, ρ', hm, ?_⟩
  cases r with
  | ex y => exact en
  | ok c => exact fun b F' H' O' st' p' => k b F' H' ρ' O' c hm st' p' (en b F' H' O' st' p')
theorem Run.iff_ {c : Prop} [Decidable c] {Q : β → Hp → Prop} (h : Run Z B Wx P (if c then m else M.stuck) σ F H ρ O Q) : c ∧ Run Z B Wx P m σ F H ρ O Q := by
  by_cases hc : c
  · rw [if_pos hc] at h; exact ⟨hc, h⟩
  · rw [if_neg hc] at h; exact h.stuck.elim
end
theorem _root_.L2.PE.mono {X : Cx} {e : Expr} {t t' : TE} (h : PE X e t) (k : ∀ σ H Q, t' σ H Q → t σ H Q) : PE X e t' := ⟨fun pins s σ H Q I q => h.run pins s σ H Q I (k σ H Q q)⟩
theorem _root_.L2.PT.mono {X : Cx} {e : Expr} {t t' : TT} (h : PT X e t) (k : ∀ σ H Q, t' σ H Q → t σ H Q) : PT X e t' := ⟨fun pins s σ H Q I q => h.run pins s σ H Q I (k σ H Q q)⟩
theorem _root_.L2.PA.mono {X : Cx} {e : List Expr} {t t' : TA} (h : PA X e t) (k : ∀ σ H Q, t' σ H Q → t σ H Q) : PA X e t' := ⟨fun pos pins s σ H Q I q => h.run pos pins s σ H Q I (k σ H Q q)⟩
theorem _root_.L2.PS.mono {X : Cx} {e : Stmt} {t t' : TS} (h : PS X e t) (k : ∀ D σ H, t' D σ H → t D σ H) : PS X e t' := ⟨fun pins s σ H D I q => h.run pins s σ H D I (k D σ H q)⟩
/-! ### operands -/
/-- a look on the spot: the object may be a slot's own -/
def Sh (Z : Wd) (F H : Hp) (v : VV) (d : D) : Prop := Rp Z F v d ∨ ∃ p fp o, v = .ref p ∧ Own Z F H p fp o ∧ frz o = some d
def pO (Z : Wd) (σ : Sg) (e : E) : Rl D VV := fun F' _ _ _ v d => match isVar e with
  | some i => σ[i]? = some (some v)
  | none => Rp Z F' v d
theorem early_O (Z : Wd) (σ : Sg) (e : E) : Early (pO Z σ e) := fun _ _ _ _ _ _ _ _ h => h
theorem Sx.peek {Z : Wd} {B : Base} {F H : Hp} {σ : Sg} {ρ : Env} {O : List Addr} {i : Nat} {d : D} {v : VV} (s : Sx Z B F H σ ρ O) (h : peekV i ρ = some d) (hv : σ[i]? = some (some v)) : Sh Z F H v d := by
  unfold peekV at h
  cases q : ρ[i]? with
  | none => rw [q] at h; cases h
  | some sl =>
    rw [q] at h
    cases sl with
    | un => cases h
    | val d' =>
      cases h
      obtain ⟨v', e, r⟩ := s.sl.val_at q
      rw [e] at hv
      cases hv
      exact .inl r
    | own o m =>
      obtain ⟨p, fp, e, w, _⟩ := s.sl.own_at q
      rw [e] at hv
      cases hv
      exact .inr ⟨p, fp, o, rfl, w, h⟩
theorem pO.sh {Z : Wd} {B : Base} {σ : Sg} {e : E} {F1 H1 G1 F H : Hp} {ρ1 ρ : Env} {O : List Addr} {v : VV} {d d' : D} (p : pO Z σ e F1 H1 G1 ρ1 v d) (s : Sx Z B F H σ ρ O) (f : Sub F1 F) (h : fin e d ρ = some d') : Sh Z F H v d' := by
  unfold pO at p
  unfold fin at h
  cases q : isVar e with
  | none => rw [q] at p h; cases h; exact .inl (Rp.mono f p)
  | some i => rw [q] at p h; exact s.peek h p
theorem Run.fin1 {Z : Wd} {B : Base} {Wx : WX} {P : Rl W VV} {σ : Sg} {F H : Hp} {ρ : Env} {O : List Addr} {Q : VV → Hp → Prop} {e : E} {d : D} {k : D → M W} (h : Run Z B Wx P (fin1 e d k) σ F H ρ O Q) :
    ∃ d', fin e d ρ = some d' ∧ Run Z B Wx P (k d') σ F H ρ O Q := by
  obtain ⟨r, ρ', hm, en⟩ := h
  unfold Py.fin1 at hm
  cases q : fin e d ρ with
  | none => rw [q] at hm; cases hm
  | some d' => rw [q] at hm; exact ⟨d', rfl, r, ρ', hm, en⟩
theorem Run.fin2 {Z : Wd} {B : Base} {Wx : WX} {P : Rl W VV} {σ : Sg} {F H : Hp} {ρ : Env} {O : List Addr} {Q : VV → Hp → Prop} {e f : E} {d c : D} {k : D → D → M W} (h : Run Z B Wx P (fin2 e f d c k) σ F H ρ O Q) :
    ∃ d' c', fin e d ρ = some d' ∧ fin f c ρ = some c' ∧ Run Z B Wx P (k d' c') σ F H ρ O Q := by
  obtain ⟨d', h1, h⟩ := h.fin1
  obtain ⟨c', h2, h⟩ := h.fin1
  exact ⟨d', c', h1, h2, h⟩
/-- behind an operation: nothing that stood is changed -/
def After (Z : Wd) (F H : Hp) (w : W) (Q : VV → Hp → Prop) : Prop := ∀ v F' H' fp, Gr Z.cls.T F H F' H' → WR Z F' H' v fp w → (∀ b ∈ fp, H b = none) → Q v H'
theorem After.val {Z : Wd} {F H : Hp} {d : D} {Q : VV → Hp → Prop} (s : Sub F H) (h : After Z F H (.val d) Q) {v : VV} (r : Rp Z F v d) : Q v H := h v F H [] (Gr.rfl s) ⟨r, rfl⟩ (fun _ hb => nomatch hb)
theorem Run.after {Z : Wd} {B : Base} {Wx : WX} {σ : Sg} {F H : Hp} {ρ : Env} {O : List Addr} {Q : VV → Hp → Prop} {w : W} (s : Sx Z B F H σ ρ O) (h : Run Z B Wx (pW Z) (M.ret w) σ F H ρ O Q) : After Z F H w Q := by
  obtain ⟨r, ρ', hm, en⟩ := h
  cases hm
  exact fun v F' H' fp g r n => en v F' H' O (Stp.gr s g) ⟨fp, r, n⟩
theorem Run.valM {Z : Wd} {B : Base} {Wx : WX} {σ : Sg} {F H : Hp} {ρ : Env} {O : List Addr} {Q : VV → Hp → Prop} {o : Option D} (s : Sx Z B F H σ ρ O) (h : Run Z B Wx (pW Z) (valM o) σ F H ρ O Q) : ∃ d, o = some d ∧ After Z F H (.val d) Q := by
  obtain ⟨d, e, h⟩ := h.lift
  exact ⟨d, e, h.after s⟩
theorem Run.newM {Z : Wd} {B : Base} {Wx : WX} {σ : Sg} {F H : Hp} {ρ : Env} {O : List Addr} {Q : VV → Hp → Prop} {o : Option D} (s : Sx Z B F H σ ρ O) (h : Run Z B Wx (pW Z) (newM o) σ F H ρ O Q) : ∃ d, o = some d ∧ After Z F H (ownW d) Q := by
  obtain ⟨d, e, h⟩ := h.lift
  exact ⟨d, e, h.after s⟩
theorem Run.blM {Z : Wd} {B : Base} {Wx : WX} {σ : Sg} {F H : Hp} {ρ : Env} {O : List Addr} {Q : VV → Hp → Prop} {o : Option Bool} (s : Sx Z B F H σ ρ O) (h : Run Z B Wx (pW Z) (blM o) σ F H ρ O Q) : ∃ b, o = some b ∧ Q (.bl b) H := by
  obtain ⟨d, e, h⟩ := h.lift
  exact ⟨d, e, (h.after s).val s.fh (.bl d)⟩
/-- an own object let go -/
theorem Sx.let_go {Z : Wd} {B : Base} {F H : Hp} {σ : Sg} {ρ : Env} {O : List Addr} {i : Nat} {o : Ob} {d : D} (s : Sx Z B F H σ ρ O) (hi : ρ[i]? = some (.own o false)) (hd : frz o = some d) :
    ∃ F' O' v, Stp Z B σ F H O F' H (ρ.set i (.val d)) O' ∧ σ[i]? = some (some v) ∧ Rp Z F' v d := by
  obtain ⟨p, fp, O', e, w, a, b, c, n, sl⟩ := s.sl.drop_at hi
  have s1 : Sx Z B F H σ (ρ.set i .un) O' := ⟨s.fh, s.f0, s.h0, s.tb, s.ht, s.fn, sl, fun x hx => ⟨(s.pr x hx).1, (s.pr x hx).2.1, fun z => (s.pr x hx).2.2 (c x z)⟩⟩
  have s2 := s1.freeze w b n fun x hx z => (s.pr x z).2.2 (a x hx)
  have hl : i < ρ.length := by
    rcases Nat.lt_or_ge i ρ.length with h | h
    · exact h
    · rw [List.getElem?_eq_none h] at hi; cases hi
  have e2 : (ρ.set i Slot.un)[i]? = some .un := by rw [List.getElem?_set_self hl]
  have r := w.freeze hd
  have sl3 := s2.sl.fill_val (i := i) r e2
  have es : σ.set i (some (L2.V.ref p)) = σ := by
    apply List.ext_getElem?
    intro j
    by_cases hj : i = j
    · subst hj
      have hs : i < σ.length := by rw [s.sl.len.1]; exact hl
      rw [List.getElem?_set_self hs, e]
    · rw [List.getElem?_set_ne hj]
  rw [es, List.set_set] at sl3
  exact ⟨frzF F H fp, O', .ref p, ⟨⟨s2.fh, s2.f0, s2.h0, s2.tb, s2.ht, s2.fn, sl3, s2.pr⟩, c, frzF_sub w, fun _ _ _ q _ => q, fun _ q => q⟩, e, r⟩
/-- what is new is let go: a value comes -/
theorem Run.fz {Z : Wd} {B : Base} {Wx : WX} {σ : Sg} {F H : Hp} {ρ : Env} {O : List Addr} {Q : VV → Hp → Prop} {m : M W} (s : Sx Z B F H σ ρ O) (h : Run Z B Wx (pD Z) (fzM m) σ F H ρ O Q) : Run Z B Wx (pW Z) m σ F H ρ O Q := by
  refine Run.seq (P := pW Z) (early_D Z) h fun w v F1 H1 ρ1 O1 hm st ⟨fp, r, n⟩ h2 => ?_
  obtain ⟨r2, ρ2, hm2, en⟩ := h2
  cases w with
  | val d =>
    cases hm2
    exact en v F1 H1 O1 (Stp.rfl st.sx) r.1
  | own o =>
    obtain ⟨p, rfl, w⟩ := r
    have hm3 : M.lift (frz o) ρ1 = some (r2, ρ2) := hm2
    cases q : frz o with
    | none => rw [q] at hm3; cases hm3
    | some d =>
      rw [q] at hm3
      cases hm3
      have nO : ∀ b ∈ fp, b ∉ O1 := fun b hb z => (s.sl.there b (st.oo b z)).1 (n b hb)
      have n0 : ∀ b ∈ fp, B.H0 b = none := fun b hb => s.new (n b hb)
      have s2 := st.sx.freeze w n0 nO fun b hb z => (s.pr b z).1 (n b hb)
      exact en (.ref p) _ _ O1 ⟨s2, fun _ x => x, frzF_sub w, fun _ _ _ e _ => e, fun _ e => e⟩ (w.freeze q)
/-! ### what stands for what: shallow looks -/
section
variable {Z : Wd} {F H : Hp} {v : VV}
theorem Sh.tup {ds : List D} (h : Sh Z F H v (.tup ds)) (s : Sub F H) : ∃ a vs, v = .ref a ∧ SqT Z.K H a vs ∧ RpL Z F vs ds := by
  rcases h with h | ⟨p, fp, o, _, w, e⟩
  · cases h with
    | tup q l => exact ⟨_, _, rfl, sqT_mono s q, l⟩
  · cases o <;> cases e
theorem Sh.lst {ds : List D} (h : Sh Z F H v (.lst ds)) (s : Sub F H) : ∃ a vs, v = .ref a ∧ H a = some (.lst vs) ∧ RpL Z F vs ds := by
  rcases h with h | ⟨p, fp, o, rfl, w, e⟩
  · cases h with
    | lst q l => exact ⟨_, _, rfl, s _ _ q, l⟩
  · cases o with
    | lst xs =>
      cases e
      obtain ⟨_, vs, e1, l⟩ := w.r
      exact ⟨p, vs, rfl, e1, l⟩
    | _ => cases e
theorem Sh.int {i : Int} (h : Sh Z F H v (.int i)) : v = .int i := by
  rcases h with h | ⟨p, fp, o, _, w, e⟩
  · cases h; rfl
  · cases o <;> cases e
theorem Sh.bl {i : Bool} (h : Sh Z F H v (.bl i)) : v = .bl i := by
  rcases h with h | ⟨p, fp, o, _, w, e⟩
  · cases h; rfl
  · cases o <;> cases e
theorem Sh.str {i : Str} (h : Sh Z F H v (.str i)) : v = .str i := by
  rcases h with h | ⟨p, fp, o, _, w, e⟩
  · cases h; rfl
  · cases o <;> cases e
theorem Sh.non (h : Sh Z F H v .non) : v = .non := by
  rcases h with h | ⟨p, fp, o, _, w, e⟩
  · cases h; rfl
  · cases o <;> cases e
theorem Sh.ins {c : Nat} {fs : List Str} {ds : List D} (h : Sh Z F H v (.ins c fs ds)) (s : Sub F H) : ∃ a dx vs, v = .ref a ∧ H a = some (.ins (Z.cls c) dx (fs.zip vs)) ∧ fs.length = vs.length ∧ RpL Z F vs ds := by
  rcases h with h | ⟨p, fp, o, rfl, w, e⟩
  · cases h with
    | ins q q2 e l => exact ⟨_, _, _, rfl, s _ _ q, e, l⟩
  · cases o with
    | ins c fs xs =>
      cases e
      obtain ⟨dx, vs, _, e1, _, e3, l⟩ := w.r
      exact ⟨p, dx, vs, rfl, e1, e3, l⟩
    | _ => cases e
theorem Sh.scr {ns : List Int} (h : Sh Z F H v (.scr ns)) (s : Sub F H) : ∃ a, v = .ref a ∧ SqL Z.K H a (ns.map L2.V.int) := by
  rcases h with h | ⟨p, fp, o, _, w, e⟩
  · cases h with
    | scr q =>
      refine ⟨_, rfl, ?_⟩
      rcases q with ⟨o, q⟩ | q
      · exact .inl (.inr ⟨o, s _ _ q⟩)
      · exact q H
  · cases o <;> cases e
end
/-! ### operations by values -/
section
variable {X : Cx} {cls : Nm}
abbrev rB (Z : Wd) (f : D → D → Option W) : R2 := fun x y H Q => ∃ F d e w, Sub F H ∧ Sh Z F H x d ∧ Sh Z F H y e ∧ f d e = some w ∧ After Z F H w Q
theorem lim_eq : lim = sizeLine := rfl
theorem small_ok {i : Int} (h : small i = true) : -(2 ^ 64) < i ∧ i < 2 ^ 64 := by
  have := of_decide_eq_true h
  exact ⟨by have := this.1; omega, by have := this.2; omega⟩
theorem After.own_lst {Z : Wd} {F H : Hp} {ds : List D} {vs : List VV} {Q : VV → Hp → Prop} (s : Sub F H) (h : After Z F H (.own (.lst ds)) Q) (l : RpL Z F vs ds) {p : Addr} (n : H p = none) : Q (.ref p) (upd H p (.lst vs)) :=
  h (.ref p) F _ [p] (Gr.own s n) ⟨p, rfl, ⟨rfl, vs, upd_same, l⟩, fun b hb => by simp at hb; subst hb; exact sub_none s n, by simp⟩ fun b hb => by simp at hb; subst hb; exact n
theorem After.new_tup {Z : Wd} {F H : Hp} {ds : List D} {vs : List VV} {Q : VV → Hp → Prop} (s : Sub F H) (h : After Z F H (.val (.tup ds)) Q) (l : RpL Z F vs ds) {p : Addr} (n : H p = none) : Q (.ref p) (upd H p (.tup vs)) :=
  h (.ref p) _ _ [] (Gr.new s n) ⟨.tup (SqT.of upd_same) (l.mono (Gr.new (T := []) s n).ff), rfl⟩ fun b hb => nomatch hb
def opOf : BOp → Operator
  | .add => .Add
  | .sub => .Sub
  | .mul => .Mult
  | .fdiv => .FloorDiv
  | .mod => .Mod
  | .pow => .Pow
theorem OpR.as {f : Value → Value → Sem Value} {r r' : R2} (h : OpR X f r) (k : ∀ x y H Q, r' x y H Q → r x y H Q) : OpR X f r' := fun pins s σ H x y v u Q I rx ry q => h pins s σ H x y v u Q I rx ry (k x y H Q q)
theorem opr_bin (op : BOp) : OpR X (binaryOp (opOf op)) (rB (zd X cls) fun a b => (binD op a b).map ownW) := by
  intro pins s σ H x y v u Q I rx ry h
  obtain ⟨F, d, e, w, fh, hd, he, hf, af⟩ := h
  cases op with
  | add =>
    cases d with
    | int i => cases e with
      | int j =>
        cases hf; cases hd.int; cases he.int
        exact op_add pins s σ H _ _ v u Q I rx ry ⟨i, j, rfl, rfl, af.val fh (.int _)⟩
      | _ => cases hf
    | str a => cases e with
      | str b =>
        cases hd.str; cases he.str
        have hf' : (if a.length + b.length ≤ lim then some (D.str (a ++ b)) else none).map ownW = some w := hf
        by_cases hl : a.length + b.length ≤ lim
        · rw [if_pos hl] at hf'; cases hf'
          exact op_add_str pins s σ H _ _ v u Q I rx ry ⟨a, b, rfl, rfl, hl, af.val fh (.str _)⟩
        · rw [if_neg hl] at hf'; cases hf'
      | _ => cases hf
    | tup a => cases e with
      | tup b =>
        obtain ⟨p, vs, rfl, hp, l⟩ := hd.tup fh
        obtain ⟨q, us, rfl, hq, l2⟩ := he.tup fh
        have hf' : (if a.length + b.length ≤ lim then some (D.tup (a ++ b)) else none).map ownW = some w := hf
        by_cases hl : a.length + b.length ≤ lim
        · rw [if_pos hl] at hf'; cases hf'
          have z : vs.length + us.length ≤ sizeLine := by rw [l.length, l2.length]; exact hl
          refine op_catA pins s σ H _ _ v u Q I rx ry ⟨p, q, vs, us, rfl, rfl, hp, hq, z, fun e0 => ?_, fun _ e1 => ?_, fun _ _ t ht => ?_⟩
          · subst e0
            cases l
            rcases he with he | ⟨_, _, o, _, w, e⟩
            · exact af.val fh he
            · cases o <;> cases e
          · subst e1
            cases l2
            rcases hd with hd | ⟨_, _, o, _, w, e⟩
            · have af' : After (zd X cls) F H (.val (.tup a)) Q := by simpa [ownW] using af
              exact af'.val fh hd
            · cases o <;> cases e
          · exact After.new_tup fh af (l.app l2) ht
        · rw [if_neg hl] at hf'; cases hf'
      | _ => cases hf
    | lst a => cases e with
      | lst b =>
        obtain ⟨p, vs, rfl, hp, l⟩ := hd.lst fh
        obtain ⟨q, us, rfl, hq, l2⟩ := he.lst fh
        have hf' : (if a.length + b.length ≤ lim then some (D.lst (a ++ b)) else none).map ownW = some w := hf
        by_cases hl : a.length + b.length ≤ lim
        · rw [if_pos hl] at hf'; cases hf'
          have z : vs.length + us.length ≤ sizeLine := by rw [l.length, l2.length]; exact hl
          exact op_cat pins s σ H _ _ v u Q I rx ry ⟨p, q, vs, us, rfl, rfl, hp, hq, z, fun t ht => After.own_lst fh af (l.app l2) ht⟩
        · rw [if_neg hl] at hf'; cases hf'
      | _ => cases hf
    | _ => cases e <;> cases hf
  | sub =>
    cases d with
    | int i => cases e with
      | int j =>
        cases hf; cases hd.int; cases he.int
        exact op_sub pins s σ H _ _ v u Q I rx ry ⟨i, j, rfl, rfl, af.val fh (.int _)⟩
      | _ => cases hf
    | _ => cases e <;> cases hf
  | mul =>
    cases d with
    | int i => cases e with
      | int j =>
        cases hd.int; cases he.int
        have hf' : (if (small i || small j) = true then some (D.int (i * j)) else none).map ownW = some w := hf
        by_cases hl : (small i || small j) = true
        · rw [if_pos hl] at hf'; cases hf'
          refine op_mul pins s σ H _ _ v u Q I rx ry ⟨i, j, rfl, rfl, ?_, af.val fh (.int _)⟩
          rcases Bool.or_eq_true_iff.mp hl with h | h
          · exact .inl (small_ok h)
          · exact .inr (small_ok h)
        · rw [if_neg hl] at hf'; cases hf'
      | _ => cases hf
    | lst a => cases e with
      | int k =>
        obtain ⟨p, vs, rfl, hp, l⟩ := hd.lst fh
        cases he.int
        have hf' : (if 0 ≤ k ∧ k < 16777216 ∧ a.length * k.toNat ≤ lim then some (D.lst (List.replicate k.toNat a).flatten) else none).map ownW = some w := hf
        by_cases hl : 0 ≤ k ∧ k < 16777216 ∧ a.length * k.toNat ≤ lim
        · rw [if_pos hl] at hf'; cases hf'
          have rep : ∀ n : Nat, RpL (zd X cls) F (List.replicate n vs).flatten (List.replicate n a).flatten := fun n => by
            induction n with
            | zero => exact .nil
            | succ n ih => rw [List.replicate_succ, List.replicate_succ, List.flatten_cons, List.flatten_cons]; exact l.app ih
          exact op_rep pins s σ H _ _ v u Q I rx ry ⟨p, k, vs, rfl, rfl, hp, by omega, by omega, by rw [l.length]; exact hl.2.2, fun t ht => After.own_lst fh af (rep _) ht⟩
        · rw [if_neg hl] at hf'; cases hf'
      | _ => cases hf
    | _ => cases e <;> cases hf
  | fdiv =>
    cases d with
    | int i => cases e with
      | int j =>
        cases hd.int; cases he.int
        have hf' : (if j ≠ 0 ∧ j.natAbs < 1073741824 then some (D.int (i.fdiv j)) else none).map ownW = some w := hf
        by_cases hl : j ≠ 0 ∧ j.natAbs < 1073741824
        · rw [if_pos hl] at hf'; cases hf'
          exact op_fdivN pins s σ H _ _ v u Q I rx ry ⟨i, j, rfl, rfl, hl, af.val fh (.int _)⟩
        · rw [if_neg hl] at hf'; cases hf'
      | _ => cases hf
    | _ => cases e <;> cases hf
  | mod =>
    cases d with
    | int i => cases e with
      | int j =>
        cases hd.int; cases he.int
        have hf' : (if j ≠ 0 then some (D.int (i.fmod j)) else none).map ownW = some w := hf
        by_cases hl : j ≠ 0
        · rw [if_pos hl] at hf'; cases hf'
          exact op_modN pins s σ H _ _ v u Q I rx ry ⟨i, j, rfl, rfl, hl, af.val fh (.int _)⟩
        · rw [if_neg hl] at hf'; cases hf'
      | _ => cases hf
    | _ => cases e <;> cases hf
  | pow =>
    cases d with
    | int i => cases e with
      | int j =>
        cases hd.int; cases he.int
        have hf' : (if 0 ≤ j ∧ j ≤ 1000000 ∧ i.natAbs < 18446744073709551616 then some (D.int (i ^ j.toNat)) else none).map ownW = some w := hf
        by_cases hl : 0 ≤ j ∧ j ≤ 1000000 ∧ i.natAbs < 18446744073709551616
        · rw [if_pos hl] at hf'; cases hf'
          exact op_pow pins s σ H _ _ v u Q I rx ry ⟨i, j, rfl, rfl, ⟨hl.1, hl.2.1, by have := hl.2.2; omega⟩, af.val fh (.int _)⟩
        · rw [if_neg hl] at hf'; cases hf'
      | _ => cases hf
    | _ => cases e <;> cases hf
end
end Py
set_option Elab.async false
set_option linter.all false
set_option maxRecDepth 100000
set_option maxHeartbeats 4000000
/-! PyE: == and in. -/
namespace Py
open PySem PySem.Spec L2 PySem.SeqAt
theorem eqL_spec (f : D → D → Option Bool) : ∀ (xs ys : List D) (b : Bool), eqL f xs ys = some b →
    ∃ e : Nat → Bool, (∀ j x y, xs[j]? = some x → ys[j]? = some y → f x y = some (e j)) ∧ b = ((List.range (min xs.length ys.length)).all e && xs.length == ys.length)
  | [], [], b, h => by cases h; exact ⟨fun _ => true, fun j x y h => by simp at h, by simp⟩
  | [], _ :: _, b, h => by cases h; exact ⟨fun _ => true, fun j x y h => by simp at h, by simp⟩
  | _ :: _, [], b, h => by cases h; exact ⟨fun _ => true, fun j x y _ h => by simp at h, by simp⟩
  | x :: xs, y :: ys, b, h => by
    unfold eqL at h
    cases p : f x y with
    | none => rw [p] at h; cases h
    | some a =>
      cases q : eqL f xs ys with
      | none => rw [p, q] at h; cases h
      | some c =>
        rw [p, q] at h
        cases h
        obtain ⟨e, h1, h2⟩ := eqL_spec f xs ys c q
        refine ⟨fun j => match j with | 0 => a | j + 1 => e j, fun j u v hu hv => ?_, ?_⟩
        · cases j with
          | zero => simp at hu hv; subst hu hv; exact p
          | succ j => exact h1 j u v (by simpa using hu) (by simpa using hv)
        · rw [h2]
          simp only [List.length_cons, Nat.add_min_add_right, List.range_succ_eq_map, List.all_cons, List.all_map]
          rw [Bool.and_assoc]
          congr 1
          congr 1
          simp
/-- a value as it lies, with what it stands for -/
inductive Vw (Z : Wd) (F : Hp) (s : Shared) : Value → D → Prop where
  | non : Vw Z F s .none .non
  | bl (b : Bool) : Vw Z F s (.bool b) (.bl b)
  | int (i : Int) (t : Tok) : Vw Z F s (.int i t) (.int i)
  | str (x : Str) (t : Tok) : Vw Z F s (.str x t) (.str x)
  | tup {a : Addr} {its : List Value} {vs : List VV} {ds : List D} : s.heap.IsTuple a its.toArray → Vals vs its → RpL Z F vs ds → Vw Z F s (.ref a) (.tup ds)
  | lst {a : Addr} {its : List Value} {vs : List VV} {ds : List D} : s.heap.IsList a its.toArray → Vals vs its → RpL Z F vs ds → Vw Z F s (.ref a) (.lst ds)
  | dic {u : Value} {ks : List Ky} {ds : List D} : Vw Z F s u (.dic ks ds)
  | ins {u : Value} {c : Nat} {fs : List Str} {ds : List D} : Vw Z F s u (.ins c fs ds)
  | scr {u : Value} {ns : List Int} : Vw Z F s u (.scr ns)
  | exc {u : Value} {c : Nat} {fs : List Str} {ds : List D} : Vw Z F s u (.exc c fs ds)
section
variable {X : Cx} {cls : Nm} {pins : List (Addr × Obj)} {σ : Sg} {F H : Hp} {s : Shared}
theorem Sh.view (I : Inv X pins σ H s) (fh : Sub F H) {x : VV} {d : D} {u : Value} (h : Sh (zd X cls) F H x d) (r : RelV x u) : Vw (zd X cls) F s u d := by
  cases d with
  | non => cases h.non; cases r; exact .non
  | bl b => cases h.bl; cases r; exact .bl b
  | int i => cases h.int; obtain ⟨t, rfl⟩ := r; exact .int i t
  | str x => cases h.str; obtain ⟨t, rfl⟩ := r; exact .str x t
  | tup ds =>
    obtain ⟨a, vs, rfl, q, l⟩ := h.tup fh
    cases r
    obtain ⟨its, rv, p, _⟩ := I.tuple q
    exact .tup p rv l
  | lst ds =>
    obtain ⟨a, vs, rfl, q, l⟩ := h.lst fh
    cases r
    obtain ⟨its, rv, p, _⟩ := I.list (SqL.of q)
    exact .lst p.isList rv l
  | dic ks ds => exact .dic
  | ins c fs ds => exact .ins
  | scr ns => exact .scr
  | exc c fs ds => exact .exc
theorem isTuple_inj {h : Heap} {a : Addr} {p q : Array Value} (h1 : h.IsTuple a p) (h2 : h.IsTuple a q) : p = q := by
  obtain ⟨o, e, _, n, d⟩ := h1
  obtain ⟨o', e', _, n', d'⟩ := h2
  rw [e] at e'; cases e'
  rw [d] at d'
  injection d'
theorem isList_inj {h : Heap} {a : Addr} {p q : Array Value} (h1 : h.IsList a p) (h2 : h.IsList a q) : p = q := by
  obtain ⟨o, e, _, n, d⟩ := h1
  obtain ⟨o', e', _, n', d'⟩ := h2
  rw [e] at e'; cases e'
  rw [d] at d'
  injection d'
theorem list_not_tuple {h : Heap} {a : Addr} {p q : Array Value} (h1 : h.IsList a p) (h2 : h.IsTuple a q) : False := by
  obtain ⟨o, e, c, n, d⟩ := h1
  obtain ⟨o', e', c', n', d'⟩ := h2
  rw [e] at e'; cases e'
  rw [c] at c'
  exact absurd c' (by decide)
theorem all_true {n : Nat} {e : Nat → Bool} (h : ∀ j, j < n → e j = true) : (List.range n).all e = true := List.all_eq_true.mpr fun j hj => h j (List.mem_range.mp hj)
/-- one thing is equal to itself -/
theorem eq_same (I : Inv X pins σ H s) (fh : Sub F H) : ∀ (n : Nat) (d e : D) (x : VV) (u : Value) (b : Bool), Sh (zd X cls) F H x d → Sh (zd X cls) F H x e → RelV x u → eqN n d e = some b → b = true := by
  intro n
  induction n with
  | zero => intro d e x u b _ _ _ h; cases h
  | succ n ih =>
    intro d e x u b hd he r h
    have vd := Sh.view I fh hd r
    have ve := Sh.view I fh he r
    have items : ∀ {xs ys : List D} {vs : List VV} {its : List Value} {c : Bool}, Vals vs its → RpL (zd X cls) F vs xs → RpL (zd X cls) F vs ys → eqL (eqN n) xs ys = some c → c = true := by
      intro xs ys vs its c rv l1 l2 hc
      obtain ⟨e, h1, h2⟩ := eqL_spec _ xs ys c hc
      rw [h2]
      have hl : xs.length = ys.length := by rw [← l1.length, ← l2.length]
      rw [all_true fun j hj => ?_, hl]
      · simp
      · have hx : j < xs.length := by omega
        have hy : j < ys.length := by omega
        obtain ⟨v, hv, rv1⟩ := l1.get (List.getElem?_eq_getElem hx)
        obtain ⟨v', hv', rv2⟩ := l2.get (List.getElem?_eq_getElem hy)
        rw [hv] at hv'; cases hv'
        obtain ⟨u', hu', ru⟩ := rv.get hv
        exact ih _ _ v u' _ (.inl rv1) (.inl rv2) ru (h1 j _ _ (List.getElem?_eq_getElem hx) (List.getElem?_eq_getElem hy))
    cases vd with
    | non => cases ve <;> first | (cases h; rfl) | cases h
    | bl k => cases ve <;> first | (cases h; simp) | cases h
    | int i t => cases ve <;> first | (cases h; simp) | cases h
    | str y t => cases ve <;> first | (cases h; simp) | cases h
    | tup p rv l => cases ve with
      | tup p' rv' l' =>
        have e1 := isTuple_inj p p'
        have e2 : _ = _ := congrArg Array.toList e1
        simp only [List.toList_toArray] at e2
        subst e2
        have e3 := rv.inj rv'
        subst e3
        exact items rv l l' h
      | lst p' rv' l' => exact (list_not_tuple p' p).elim
      | _ => cases h
    | @lst a its vs ds p rv l => cases ve with
      | @lst a' its' vs' ds' p' rv' l' =>
        have e1 := isList_inj p p'
        have e2 : _ = _ := congrArg Array.toList e1
        simp only [List.toList_toArray] at e2
        subst e2
        have e3 := rv.inj rv'
        subst e3
        have h' : (if ds.length = ds'.length then eqL (eqN n) ds ds' else some false) = some b := h
        rw [if_pos (by rw [← l.length, ← l'.length])] at h'
        exact items rv l l' h'
      | tup p' rv' l' => exact (list_not_tuple p p').elim
      | _ => cases h
    | _ => cases ve <;> cases h
/-- == of two things -/
theorem eq_at (I : Inv X pins σ H s) (fh : Sub F H) : ∀ (n : Nat) (d e : D) (x y : VV) (u w : Value) (b : Bool) (A : Around), Sh (zd X cls) F H x d → Sh (zd X cls) F H y e → RelV x u → RelV y w → eqN n d e = some b → A.units + n ≤ cLine → EqAt A s u w b := by
  intro n
  induction n with
  | zero => intro d e x y u w b A _ _ _ _ h; cases h
  | succ n ih =>
    intro d e x y u w b A hd he r r' h hu
    have hu0 : A.units < cLine := by omega
    have vd := Sh.view I fh hd r
    have ve := Sh.view I fh he r'
    have items : ∀ {xs ys : List D} {vs ws : List VV} {its its2 : List Value} {c : Bool}, Vals vs its → Vals ws its2 → RpL (zd X cls) F vs xs → RpL (zd X cls) F ws ys → eqL (eqN n) xs ys = some c →
        ∃ e : Nat → Bool, (∀ j (h1 : j < its.toArray.size) (h2 : j < its2.toArray.size), EqAt A.in1 s its.toArray[j] its2.toArray[j] (e j)) ∧ c = ((List.range (min its.toArray.size its2.toArray.size)).all e && its.toArray.size == its2.toArray.size) := by
      intro xs ys vs ws its its2 c rv rw_ l1 l2 hc
      obtain ⟨e, h1, h2⟩ := eqL_spec _ xs ys c hc
      have hl1 : its.toArray.size = xs.length := by rw [List.size_toArray, ← rv.length, l1.length]
      have hl2 : its2.toArray.size = ys.length := by rw [List.size_toArray, ← rw_.length, l2.length]
      refine ⟨e, fun j j1 j2 => ?_, by rw [hl1, hl2]; exact h2⟩
      have hx : j < xs.length := by omega
      have hy : j < ys.length := by omega
      obtain ⟨v, hv, rv1⟩ := l1.get (List.getElem?_eq_getElem hx)
      obtain ⟨v', hv', rv2⟩ := l2.get (List.getElem?_eq_getElem hy)
      obtain ⟨u1, hu1, ru1⟩ := rv.get hv
      obtain ⟨u2, hu2, ru2⟩ := rw_.get hv'
      have e1 : its.toArray[j] = u1 := by
        have j1' : j < its.length := by simpa using j1
        rw [List.getElem?_eq_getElem j1'] at hu1
        simpa using hu1
      have e2 : its2.toArray[j] = u2 := by
        have j2' : j < its2.length := by simpa using j2
        rw [List.getElem?_eq_getElem j2'] at hu2
        simpa using hu2
      rw [e1, e2]
      exact ih _ _ v v' u1 u2 _ A.in1 (.inl rv1) (.inl rv2) ru1 ru2 (h1 j _ _ (List.getElem?_eq_getElem hx) (List.getElem?_eq_getElem hy)) (by show A.units + 1 + n ≤ cLine; omega)
    cases vd with
    | non => cases ve with
      | non => cases h; exact EqAt.same _
      | bl k => cases h; exact EqAt.none_bool k
      | int i t => cases h; exact EqAt.none_int i t
      | str y t => cases h; exact EqAt.none_str y t
      | tup p' rv' l' => cases h; exact EqAt.none_tuple p' hu0
      | lst p' rv' l' => cases h; exact EqAt.none_list p' hu0
      | dic => cases h
      | ins => cases h
      | scr => cases h
      | exc => cases h
    | bl k => cases ve with
      | non => cases h; exact EqAt.bool_none k
      | bl k2 => cases h; exact EqAt.bool_bool k k2
      | int i2 t2 => cases h; exact EqAt.bool_int k i2 t2
      | str y2 t2 => cases h; exact EqAt.bool_str k y2 t2
      | tup p' rv' l' => cases h; exact EqAt.bool_tuple k p' hu0
      | lst p' rv' l' => cases h; exact EqAt.bool_list k p' hu0
      | dic => cases h
      | ins => cases h
      | scr => cases h
      | exc => cases h
    | int i t => cases ve with
      | non => cases h; exact EqAt.int_none i t
      | bl k2 => cases h; exact EqAt.int_bool i t k2
      | int i2 t2 => cases h; exact EqAt.int_int i t i2 t2
      | str y2 t2 => cases h; exact EqAt.int_str i t y2 t2
      | tup p' rv' l' => cases h; exact EqAt.int_tuple i t p' hu0
      | lst p' rv' l' => cases h; exact EqAt.int_list i t p' hu0
      | dic => cases h
      | ins => cases h
      | scr => cases h
      | exc => cases h
    | str y t => cases ve with
      | non => cases h; exact EqAt.str_none y t
      | bl k2 => cases h; exact EqAt.str_bool y t k2
      | int i2 t2 => cases h; exact EqAt.str_int y t i2 t2
      | str y2 t2 => cases h; exact EqAt.str_str y t y2 t2
      | tup p' rv' l' => cases h; exact EqAt.str_tuple y t p' hu0
      | lst p' rv' l' => cases h; exact EqAt.str_list y t p' hu0
      | dic => cases h
      | ins => cases h
      | scr => cases h
      | exc => cases h
    | @tup a its vs ds p rv l => cases ve with
      | @tup a' its' vs' ds' p' rv' l' =>
        by_cases ha : a = a'
        · subst ha
          have xe : x = .ref a := r.inj rfl
          have ye : y = .ref a := r'.inj rfl
          subst xe ye
          rw [eq_same I fh (n + 1) _ _ _ _ b hd he rfl h]
          exact EqAt.same _
        · obtain ⟨e, h1, h2⟩ := items rv rv' l l' h
          rw [h2]
          exact EqAt.of_refs ha (RcAt.tuples p p' hu0 h1)
      | non => cases h; exact EqAt.tuple_none p hu0
      | bl k => cases h; exact EqAt.tuple_bool _ p hu0
      | int i t => cases h; exact EqAt.tuple_int _ _ p hu0
      | str y t => cases h; exact EqAt.tuple_str _ _ p hu0
      | lst p' rv' l' => cases h; exact EqAt.tuple_list p p' hu0
      | _ => cases h
    | @lst a its vs ds p rv l => cases ve with
      | @lst a' its' vs' ds' p' rv' l' =>
        by_cases ha : a = a'
        · subst ha
          have xe : x = .ref a := r.inj rfl
          have ye : y = .ref a := r'.inj rfl
          subst xe ye
          rw [eq_same I fh (n + 1) _ _ _ _ b hd he rfl h]
          exact EqAt.same _
        · have h' : (if ds.length = ds'.length then eqL (eqN n) ds ds' else some false) = some b := h
          have z1 : its.toArray.size = ds.length := by rw [List.size_toArray, ← rv.length, l.length]
          have z2 : its'.toArray.size = ds'.length := by rw [List.size_toArray, ← rv'.length, l'.length]
          split at h'
          · rename_i hl
            obtain ⟨e, h1, h2⟩ := items rv rv' l l' h'
            have hz : its.toArray.size = its'.toArray.size := by omega
            rw [h2, ← hz, Nat.min_self, beq_self_eq_true, Bool.and_true]
            exact EqAt.of_refs ha (RcAt.lists p p' hz hu0 h1)
          · rename_i hl
            cases h'
            exact EqAt.of_refs ha (RcAt.lists_lengths p p' (by simp only [bne_iff_ne]; omega) hu0)
      | non => cases h; exact EqAt.list_none p hu0
      | bl k => cases h; exact EqAt.list_bool _ p hu0
      | int i t => cases h; exact EqAt.list_int _ _ p hu0
      | str y t => cases h; exact EqAt.list_str _ _ p hu0
      | tup p' rv' l' => cases h; exact EqAt.list_tuple p p' hu0
      | _ => cases h
    | _ => cases ve <;> cases h
/-- .. of the items -/
theorem items_at (I : Inv X pins σ H s) (fh : Sub F H) {n : Nat} {A : Around} {xs ys : List D} {vs ws : List VV} {its its2 : List Value} {c : Bool} (rv : Vals vs its) (rw_ : Vals ws its2) (l1 : RpL (zd X cls) F vs xs) (l2 : RpL (zd X cls) F ws ys) (hc : eqL (eqN n) xs ys = some c) (hu : A.units + 1 + n ≤ cLine) :
    ∃ e : Nat → Bool, (∀ j (h1 : j < its.toArray.size) (h2 : j < its2.toArray.size), EqAt A.in1 s its.toArray[j] its2.toArray[j] (e j)) ∧ c = ((List.range (min its.toArray.size its2.toArray.size)).all e && its.toArray.size == its2.toArray.size) := by
  obtain ⟨e, h1, h2⟩ := eqL_spec _ xs ys c hc
  have hl1 : its.toArray.size = xs.length := by rw [List.size_toArray, ← rv.length, l1.length]
  have hl2 : its2.toArray.size = ys.length := by rw [List.size_toArray, ← rw_.length, l2.length]
  refine ⟨e, fun j j1 j2 => ?_, by rw [hl1, hl2]; exact h2⟩
  have hx : j < xs.length := by omega
  have hy : j < ys.length := by omega
  obtain ⟨v, hv, rv1⟩ := l1.get (List.getElem?_eq_getElem hx)
  obtain ⟨v', hv', rv2⟩ := l2.get (List.getElem?_eq_getElem hy)
  obtain ⟨u1, hu1, ru1⟩ := rv.get hv
  obtain ⟨u2, hu2, ru2⟩ := rw_.get hv'
  have e1 : its.toArray[j] = u1 := by
    have j1' : j < its.length := by simpa using j1
    rw [List.getElem?_eq_getElem j1'] at hu1
    simpa using hu1
  have e2 : its2.toArray[j] = u2 := by
    have j2' : j < its2.length := by simpa using j2
    rw [List.getElem?_eq_getElem j2'] at hu2
    simpa using hu2
  rw [e1, e2]
  exact eq_at I fh n _ _ v v' u1 u2 _ A.in1 (.inl rv1) (.inl rv2) ru1 ru2 (h1 j _ _ (List.getElem?_eq_getElem hx) (List.getElem?_eq_getElem hy)) hu
/-- the answer hangs on the value alone -/
theorem eq_det (I : Inv X pins σ H s) (fh : Sub F H) : ∀ (n : Nat) (d d' e : D) (x x' : VV) (u : Value) (b b' : Bool), Sh (zd X cls) F H x d → Sh (zd X cls) F H x' d' → RelV x u → RelV x' u → eqN n d e = some b → eqN n d' e = some b' → b = b' := by
  intro n
  induction n with
  | zero => intro d d' e x x' u b b' _ _ _ _ h; cases h
  | succ n ih =>
    intro d d' e x x' u b b' hd hd' r r' h h'
    have vd := Sh.view I fh hd r
    have vd' := Sh.view I fh hd' r'
    have items : ∀ {xs xs' ys : List D} {vs : List VV} {its : List Value} {c c' : Bool}, Vals vs its → RpL (zd X cls) F vs xs → RpL (zd X cls) F vs xs' → eqL (eqN n) xs ys = some c → eqL (eqN n) xs' ys = some c' → c = c' := by
      intro xs xs' ys vs its c c' rv l1 l2 hc hc'
      obtain ⟨e, h1, h2⟩ := eqL_spec _ xs ys c hc
      obtain ⟨e', h1', h2'⟩ := eqL_spec _ xs' ys c' hc'
      have hl : xs.length = xs'.length := by rw [← l1.length, ← l2.length]
      rw [h2, h2', hl]
      congr 1
      rw [Bool.eq_iff_iff, List.all_eq_true, List.all_eq_true]
      have same : ∀ j, j < min xs'.length ys.length → e j = e' j := fun j hj => by
        have hx : j < xs.length := by omega
        have hx' : j < xs'.length := by omega
        have hy : j < ys.length := by omega
        obtain ⟨v, hv, rv1⟩ := l1.get (List.getElem?_eq_getElem hx)
        obtain ⟨v', hv', rv2⟩ := l2.get (List.getElem?_eq_getElem hx')
        rw [hv] at hv'; cases hv'
        obtain ⟨u', hu', ru⟩ := rv.get hv
        exact ih _ _ _ v v u' _ _ (.inl rv1) (.inl rv2) ru ru (h1 j _ _ (List.getElem?_eq_getElem hx) (List.getElem?_eq_getElem hy)) (h1' j _ _ (List.getElem?_eq_getElem hx') (List.getElem?_eq_getElem hy))
      exact ⟨fun q j hj => by rw [← same j (List.mem_range.mp hj)]; exact q j hj, fun q j hj => by rw [same j (List.mem_range.mp hj)]; exact q j hj⟩
    cases vd with
    | non => cases vd' with
      | non => exact Option.some.inj (h.symm.trans h')
      | _ => cases e <;> cases h'
    | bl k => cases vd' with
      | bl => exact Option.some.inj (h.symm.trans h')
      | _ => cases e <;> cases h'
    | int i t => cases vd' with
      | int => exact Option.some.inj (h.symm.trans h')
      | _ => cases e <;> cases h'
    | str i t => cases vd' with
      | str => exact Option.some.inj (h.symm.trans h')
      | _ => cases e <;> cases h'
    | tup p rv l => cases vd' with
      | tup p' rv' l' =>
        have e1 := isTuple_inj p p'
        have e2 : _ = _ := congrArg Array.toList e1
        simp only [List.toList_toArray] at e2
        subst e2
        have e3 := rv.inj rv'
        subst e3
        cases e with
        | tup ys => exact items rv l l' h h'
        | _ => first | (cases h; cases h'; rfl) | cases h
      | lst p' rv' l' => exact (list_not_tuple p' p).elim
      | _ => cases e <;> cases h'
    | @lst a its vs ds p rv l => cases vd' with
      | @lst a' its' vs' ds' p' rv' l' =>
        have e1 := isList_inj p p'
        have e2 : _ = _ := congrArg Array.toList e1
        simp only [List.toList_toArray] at e2
        subst e2
        have e3 := rv.inj rv'
        subst e3
        cases e with
        | lst ys =>
          have q : (if ds.length = ys.length then eqL (eqN n) ds ys else some false) = some b := h
          have q' : (if ds'.length = ys.length then eqL (eqN n) ds' ys else some false) = some b' := h'
          have hl : ds.length = ds'.length := by rw [← l.length, ← l'.length]
          by_cases hy : ds.length = ys.length
          · rw [if_pos hy] at q
            rw [if_pos (by omega)] at q'
            exact items rv l l' q q'
          · rw [if_neg hy] at q
            rw [if_neg (by omega)] at q'
            cases q; cases q'; rfl
        | _ => first | (cases h; cases h'; rfl) | cases h
      | tup p' rv' l' => exact (list_not_tuple p p').elim
      | _ => cases e <;> cases h'
    | _ => cases e <;> cases h
end
end Py
set_option Elab.async false
set_option linter.all false
set_option maxRecDepth 100000
set_option maxHeartbeats 4000000
/-! PyI: comparisons, items. -/
namespace Py
open PySem PySem.Spec L2 PySem.SeqAt
section
variable {X : Cx} {cls : Nm} {pins : List (Addr × Obj)} {σ : Sg} {F H : Hp} {s : Shared}
theorem rc_at (I : Inv X pins σ H s) (fh : Sub F H) {d e : D} {x y : VV} {u w : Value} {b : Bool} {n : Nat} {A : Around} (hd : Sh (zd X cls) F H x d) (he : Sh (zd X cls) F H y e) (r : RelV x u) (r' : RelV y w) (h : eqN (n + 1) d e = some b) (hu : A.units + n + 1 ≤ cLine) : RcAt A s u w b ∧ RcNeAt A s u w (!b) := by
  have hu0 : A.units < cLine := by omega
  have vd := Sh.view I fh hd r
  have ve := Sh.view I fh he r'
  cases vd with
  | non => cases ve with
    | non => cases h; exact ⟨RcAt.none_none, RcNeAt.none_none⟩
    | bl k => cases h; exact ⟨RcAt.none_bool k, RcNeAt.none_bool k⟩
    | int i t => cases h; exact ⟨RcAt.none_int i t, RcNeAt.none_int i t⟩
    | str y t => cases h; exact ⟨RcAt.none_str y t, RcNeAt.none_str y t⟩
    | tup p' rv' l' => cases h; exact ⟨RcAt.none_tuple p' hu0, RcNeAt.none_tuple p' hu0⟩
    | lst p' rv' l' => cases h; exact ⟨RcAt.none_list p' hu0, RcNeAt.none_list p' hu0⟩
    | _ => cases h
  | bl k => cases ve with
    | non => cases h; exact ⟨RcAt.bool_none k, RcNeAt.bool_none k⟩
    | bl k2 => cases h; exact ⟨RcAt.bool_bool k k2, RcNeAt.bool_bool k k2⟩
    | int i2 t2 => cases h; exact ⟨RcAt.bool_int k i2 t2, RcNeAt.bool_int k i2 t2⟩
    | str y2 t2 => cases h; exact ⟨RcAt.bool_str k y2 t2, RcNeAt.bool_str k y2 t2⟩
    | tup p' rv' l' => cases h; exact ⟨RcAt.bool_tuple k p' hu0, RcNeAt.bool_tuple k p' hu0⟩
    | lst p' rv' l' => cases h; exact ⟨RcAt.bool_list k p' hu0, RcNeAt.bool_list k p' hu0⟩
    | _ => cases h
  | int i t => cases ve with
    | non => cases h; exact ⟨RcAt.int_none i t, RcNeAt.int_none i t⟩
    | bl k2 => cases h; exact ⟨RcAt.int_bool i t k2, RcNeAt.int_bool i t k2⟩
    | int i2 t2 => cases h; exact ⟨RcAt.int_int i t i2 t2, RcNeAt.int_int i t i2 t2⟩
    | str y2 t2 => cases h; exact ⟨RcAt.int_str i t y2 t2, RcNeAt.int_str i t y2 t2⟩
    | tup p' rv' l' => cases h; exact ⟨RcAt.int_tuple i t p' hu0, RcNeAt.int_tuple i t p' hu0⟩
    | lst p' rv' l' => cases h; exact ⟨RcAt.int_list i t p' hu0, RcNeAt.int_list i t p' hu0⟩
    | _ => cases h
  | str y t => cases ve with
    | non => cases h; exact ⟨RcAt.str_none y t, RcNeAt.str_none y t⟩
    | bl k2 => cases h; exact ⟨RcAt.str_bool y t k2, RcNeAt.str_bool y t k2⟩
    | int i2 t2 => cases h; exact ⟨RcAt.str_int y t i2 t2, RcNeAt.str_int y t i2 t2⟩
    | str y2 t2 => cases h; exact ⟨RcAt.str_str y t y2 t2, RcNeAt.str_str y t y2 t2⟩
    | tup p' rv' l' => cases h; exact ⟨RcAt.str_tuple y t p' hu0, RcNeAt.str_tuple y t p' hu0⟩
    | lst p' rv' l' => cases h; exact ⟨RcAt.str_list y t p' hu0, RcNeAt.str_list y t p' hu0⟩
    | _ => cases h
  | @tup a its vs ds p rv l => cases ve with
    | @tup a' its' vs' ds' p' rv' l' =>
      obtain ⟨e, h1, h2⟩ := items_at (n := n) I fh rv rv' l l' h (A := A) (by omega)
      rw [h2]
      exact ⟨RcAt.tuples p p' hu0 h1, RcNeAt.tuples p p' hu0 h1⟩
    | non => cases h; exact ⟨RcAt.tuple_none p hu0, RcNeAt.tuple_none p hu0⟩
    | bl k => cases h; exact ⟨RcAt.tuple_bool _ p hu0, RcNeAt.tuple_bool _ p hu0⟩
    | int i t => cases h; exact ⟨RcAt.tuple_int _ _ p hu0, RcNeAt.tuple_int _ _ p hu0⟩
    | str y t => cases h; exact ⟨RcAt.tuple_str _ _ p hu0, RcNeAt.tuple_str _ _ p hu0⟩
    | lst p' rv' l' => cases h; exact ⟨RcAt.tuple_list p p' hu0, RcNeAt.tuple_list p p' hu0⟩
    | _ => cases h
  | @lst a its vs ds p rv l => cases ve with
    | @lst a' its' vs' ds' p' rv' l' =>
      have h' : (if ds.length = ds'.length then eqL (eqN n) ds ds' else some false) = some b := h
      have z1 : its.toArray.size = ds.length := by rw [List.size_toArray, ← rv.length, l.length]
      have z2 : its'.toArray.size = ds'.length := by rw [List.size_toArray, ← rv'.length, l'.length]
      split at h'
      · rename_i hl
        obtain ⟨e, h1, h2⟩ := items_at (n := n) I fh rv rv' l l' h' (A := A) (by omega)
        have hz : its.toArray.size = its'.toArray.size := by omega
        rw [h2, ← hz, Nat.min_self, beq_self_eq_true, Bool.and_true]
        exact ⟨RcAt.lists p p' hz hu0 h1, RcNeAt.lists p p' hz hu0 h1⟩
      · rename_i hl
        cases h'
        exact ⟨RcAt.lists_lengths p p' (by simp only [bne_iff_ne]; omega) hu0, RcNeAt.lists_lengths p p' (by simp only [bne_iff_ne]; omega) hu0⟩
    | non => cases h; exact ⟨RcAt.list_none p hu0, RcNeAt.list_none p hu0⟩
    | bl k => cases h; exact ⟨RcAt.list_bool _ p hu0, RcNeAt.list_bool _ p hu0⟩
    | int i t => cases h; exact ⟨RcAt.list_int _ _ p hu0, RcNeAt.list_int _ _ p hu0⟩
    | str y t => cases h; exact ⟨RcAt.list_str _ _ p hu0, RcNeAt.list_str _ _ p hu0⟩
    | tup p' rv' l' => cases h; exact ⟨RcAt.list_tuple p p' hu0, RcNeAt.list_tuple p p' hu0⟩
    | _ => cases h
  | _ => cases ve <;> cases h
theorem Sh.non_iff {Z : Wd} {F H : Hp} {x : VV} {d : D} (h : Sh Z F H x d) : (decide (x = L2.V.non)) = (match d with | .non => true | _ => false) := by
  rcases h with h | ⟨p, fp, o, rfl, w, e⟩
  · cases h <;> rfl
  · cases o <;> cases e <;> rfl
/-- x in the items -/
theorem any_at (I : Inv X pins σ H s) (fh : Sub F H) {d : D} {x : VV} {u : Value} {b : Bool} {A : Around} {xs : List D} {vs : List VV} {its : List Value} (hd : Sh (zd X cls) F H x d) (r : RelV x u) (rv : Vals vs its) (l : RpL (zd X cls) F vs xs) (h : anyD d xs = some b) (hu : A.units + 61 ≤ cLine) :
    ∃ e : Value → Bool, (∀ y ∈ its, EqAt A.in1 s y u (e y)) ∧ its.any e = b := by
  classical
  let e : Value → Bool := fun y => decide (∃ x' d', Sh (zd X cls) F H x' d' ∧ RelV x' y ∧ eqN 60 d' d = some true)
  have key : ∀ (x' : VV) (d' : D) (y : Value) (b' : Bool), Rp (zd X cls) F x' d' → RelV x' y → eqD d' d = some b' → e y = b' := by
    intro x' d' y b' hx hr hb
    cases b' with
    | true => exact decide_eq_true ⟨x', d', .inl hx, hr, hb⟩
    | false =>
      refine decide_eq_false ?_
      rintro ⟨x2, d2, h2, r2, q2⟩
      have := eq_det I fh 60 d2 d' d x2 x' y true false h2 (.inl hx) r2 hr q2 hb
      cases this
  suffices hs : ∀ (xs : List D) (vs : List VV) (its : List Value) (b : Bool), Vals vs its → RpL (zd X cls) F vs xs → anyD d xs = some b → (∀ y ∈ its, EqAt A.in1 s y u (e y)) ∧ its.any e = b by
    obtain ⟨h1, h2⟩ := hs xs vs its b rv l h
    exact ⟨e, h1, h2⟩
  intro xs
  induction xs with
  | nil => intro vs its b rv l h; cases l; cases rv; cases h; exact ⟨fun y hy => (nomatch hy), rfl⟩
  | cons y ys ih =>
    intro vs its b rv l h
    cases l with
    | cons ry ls =>
      cases rv with
      | @cons v0 u0 _ us ru rs =>
        have h' : (match eqD y d, anyD d ys with | some a, some b => some (a || b) | _, _ => none) = some b := h
        cases p : eqD y d with
        | none => rw [p] at h'; cases h'
        | some a =>
          cases q : anyD d ys with
          | none => rw [p, q] at h'; cases h'
          | some c =>
            rw [p, q] at h'
            cases h'
            obtain ⟨h1, h2⟩ := ih _ _ c rs ls q
            have e0 := key _ y u0 a ry ru p
            refine ⟨fun z hz => ?_, by rw [List.any_cons, e0, h2]⟩
            rcases List.mem_cons.mp hz with hz | hz
            · subst hz
              rw [e0]
              exact eq_at I fh 60 _ _ _ _ _ _ a A.in1 (.inl ry) hd ru r p (by show A.units + 1 + 60 ≤ cLine; omega)
            · exact h1 z hz
end
def cpOf : COp → CmpOp
  | .eq => .Eq
  | .ne => .NotEq
  | .lt => .Lt
  | .le => .LtE
  | .gt => .Gt
  | .ge => .GtE
  | .is => .Is
  | .isnot => .IsNot
  | .isin => .In
  | .notin => .NotIn
abbrev rC (Z : Wd) (f : D → D → Option Bool) : R2 := fun x y H Q => ∃ F d e b, Sub F H ∧ Sh Z F H x d ∧ Sh Z F H y e ∧ f d e = some b ∧ Q (.bl b) H
theorem kyK_inj : ∀ {a b : Key}, kyK a = kyK b → a = b
  | .inl _, .inl _, h => by cases h; rfl
  | .inr _, .inr _, h => by cases h; rfl
theorem kyOf_key {X : Cx} {cls : Nm} {F H : Hp} {x : VV} {d : D} {k : Ky} (h : Sh (zd X cls) F H x d) (e : kyOf d = some k) : ∃ q : Key, kyK q = k ∧ x = kV q := by
  cases d with
  | int i => cases e; cases h.int; exact ⟨.inl i, rfl, rfl⟩
  | str i => cases e; cases h.str; exact ⟨.inr i, rfl, rfl⟩
  | _ => cases e
end Py
set_option Elab.async false
set_option linter.all false
set_option maxRecDepth 100000
set_option maxHeartbeats 4000000
/-! PyJ: comparisons, items, slices, as rules. -/
namespace Py
open PySem PySem.Spec L2 PySem.SeqAt PyProof.Rows
section
variable {X : Cx} {cls : Nm} {pins : List (Addr × Obj)} {σ : Sg} {F H : Hp} {s : Shared}
/-- a dict, own or known or written -/
theorem Sh.dic {Z : Wd} {F H : Hp} {v : VV} {ks : List Ky} {ds : List D} (h : Sh Z F H v (.dic ks ds)) (fh : Sub F H) :
    (∃ (a : Addr) (qs : List Key) (vs : List VV), v = .ref a ∧ H a = some (.dK (qs.zip vs)) ∧ qs.length = vs.length ∧ qs.Nodup ∧ ks = qs.map kyK ∧ RpL Z F vs ds) ∨
    ∃ (a : Addr) (es : Array DictEntry) (n : Nat) (zs : List Str) (vs : List VV), v = .ref a ∧ KDict Z.K Z.w a es n ∧ zs ≠ [] ∧ zs.length = vs.length ∧ zs.Nodup ∧ (∀ z : Str, ∃ r, PySem.W.nsIn Z.K a z = some r ∧ RelO ((zs.zip vs).lookup z) r) ∧ ks = zs.map Ky.s ∧ RpL Z F vs ds := by
  rcases h with h | ⟨p, fp, o, rfl, w, e⟩
  · cases h with
    | dic h e n l => exact .inl ⟨_, _, _, rfl, fh _ _ h, e, n, rfl, l⟩
    | dik h z e n g _ _ l => exact .inr ⟨_, _, _, _, _, rfl, h, z, e, n, g, rfl, l⟩
  · cases o with
    | dic ks ds =>
      cases e
      obtain ⟨_, qs, vs, a, b, c, d, l⟩ := w.r
      exact .inl ⟨p, qs, vs, rfl, a, b, c, d, l⟩
    | _ => cases e
theorem look_val {Z : Wd} {F : Hp} {q : Key} : ∀ {qs : List Key} {vs : List VV} {ds : List D}, qs.length = vs.length → RpL Z F vs ds →
    (∀ d, look (kyK q) (qs.map kyK) ds = some d → ∃ v, valV (qs.zip vs) q = some v ∧ Rp Z F v d) ∧ (look (kyK q) (qs.map kyK) ds = none → valV (qs.zip vs) q = none) ∧ (decide (kyK q ∈ qs.map kyK) = (valV (qs.zip vs) q).isSome)
  | [], [], ds, _, l => by cases l; exact ⟨fun d h => (nomatch h), fun _ => rfl, by simp [valV]⟩
  | [], _ :: _, _, h, _ => (nomatch h)
  | _ :: _, [], _, h, _ => (nomatch h)
  | k :: qs, v :: vs, _, h, .cons (d := d) r l => by
    have hl : qs.length = vs.length := by simpa using h
    obtain ⟨h1, h2, h3⟩ := look_val (q := q) hl l
    rw [List.map_cons, List.zip_cons_cons]
    by_cases e : k = q
    · subst e
      have ev : valV ((k, v) :: qs.zip vs) k = some v := valV_pos rfl
      rw [ev]
      refine ⟨fun d' hd => ?_, fun hd => ?_, by simp⟩
      · unfold look at hd
        rw [if_pos rfl] at hd
        cases hd
        exact ⟨v, rfl, r⟩
      · unfold look at hd
        rw [if_pos rfl] at hd
        cases hd
    · have e' : ¬ kyK q = kyK k := fun z => e (kyK_inj z).symm
      have ev : valV ((k, v) :: qs.zip vs) q = valV (qs.zip vs) q := valV_neg e
      rw [ev]
      refine ⟨fun d' hd => ?_, fun hd => ?_, ?_⟩
      · unfold look at hd
        rw [if_neg e'] at hd
        exact h1 d' hd
      · unfold look at hd
        rw [if_neg e'] at hd
        exact h2 hd
      · rw [← h3]
        simp [e']
theorem look_lk {Z : Wd} {F : Hp} {z : Str} : ∀ {zs : List Str} {vs : List VV} {ds : List D}, zs.length = vs.length → RpL Z F vs ds →
    (∀ d, look (.s z) (zs.map Ky.s) ds = some d → ∃ v, (zs.zip vs).lookup z = some v ∧ Rp Z F v d) ∧ (look (.s z) (zs.map Ky.s) ds = none → (zs.zip vs).lookup z = none) ∧ (decide (Ky.s z ∈ zs.map Ky.s) = ((zs.zip vs).lookup z).isSome)
  | [], [], ds, _, l => by cases l; exact ⟨fun d h => (nomatch h), fun _ => rfl, by simp⟩
  | [], _ :: _, _, h, _ => (nomatch h)
  | _ :: _, [], _, h, _ => (nomatch h)
  | k :: qs, v :: vs, _, h, .cons (d := d) r l => by
    have hl : qs.length = vs.length := by simpa using h
    obtain ⟨h1, h2, h3⟩ := look_lk (z := z) hl l
    rw [List.map_cons, List.zip_cons_cons, List.lookup_cons]
    by_cases e : z = k
    · subst e
      rw [show (z == z) = true from beq_self_eq_true z]
      refine ⟨fun d' hd => ?_, fun hd => ?_, by simp⟩
      · unfold look at hd
        rw [if_pos rfl] at hd
        cases hd
        exact ⟨v, rfl, r⟩
      · unfold look at hd
        rw [if_pos rfl] at hd
        cases hd
    · have e' : ¬ Ky.s z = Ky.s k := fun q => e (by injection q)
      rw [show (z == k) = false from by simpa using e]
      refine ⟨fun d' hd => ?_, fun hd => ?_, ?_⟩
      · unfold look at hd
        rw [if_neg e'] at hd
        exact h1 d' hd
      · unfold look at hd
        rw [if_neg e'] at hd
        exact h2 hd
      · rw [← h3]
        simp [e]
theorem fit_str {k : Ky} {zs : List Str} (h : kyFit k (zs.map Ky.s) = true) (n : zs ≠ []) : ∃ z, k = .s z := by
  cases k with
  | s z => exact ⟨z, rfl⟩
  | i j =>
    cases zs with
    | nil => exact absurd rfl n
    | cons z zs =>
      unfold kyFit at h
      rw [List.any_map] at h
      simp [Ky.isI] at h
theorem RelO.isSome {a : Option VV} {b : Option Value} (h : RelO a b) : a.isSome = b.isSome := by
  cases a <;> cases b <;> first | rfl | exact h.elim
/-- k in dict -/
theorem in_dic {A : Around} {E : Value → Shared → Prop} (I : Inv X pins σ H s) (fh : Sub F H) (hu : A.units + 1 < cLine) {x y : VV} {u w : Value} {d : D} {k : Ky} {ks : List Ky} {ds : List D} (hx : Sh (zd X cls) F H x d) (hk : kyOf d = some k) (hy : Sh (zd X cls) F H y (.dic ks ds)) (r : RelV x u) (r' : RelV y w) (fit : kyFit k ks = true) {Q : Value → Shared → Prop} :
    ((∀ s', Inv X pins σ H s' → Q (.bool (decide (k ∈ ks))) s') → wpAny (model X.prog X.w) A (compareOp .In u w) Q E s) ∧ ((∀ s', Inv X pins σ H s' → Q (.bool (!decide (k ∈ ks))) s') → wpAny (model X.prog X.w) A (compareOp .NotIn u w) Q E s) := by
  obtain ⟨q, rfl, rfl⟩ := kyOf_key hx hk
  rcases hy.dic fh with ⟨a, qs, vs, rfl, ha, hl, nd, rfl, l⟩ | ⟨a, es, n, zs, vs, rfl, hkd, nz, hl, nd, hr, rfl, l⟩
  · cases r'
    obtain ⟨_, _, h3⟩ := look_val (q := q) hl l
    rw [h3]
    exact ⟨fun h => d_in hu I (.inl ⟨_, _, .of ha, rfl, rfl⟩) r h, fun h => d_notIn hu I (.inl ⟨_, _, .of ha, rfl, rfl⟩) r h⟩
  · cases r'
    obtain ⟨z, hz⟩ := fit_str fit nz
    cases q with
    | inl i => cases hz
    | inr z' =>
      cases hz
      obtain ⟨t, rfl⟩ := r
      obtain ⟨_, _, h3⟩ := look_lk (z := z) hl l
      obtain ⟨rr, e, ro⟩ := hr z
      show ((∀ s', Inv X pins σ H s' → Q (.bool (decide (Ky.s z ∈ zs.map Ky.s))) s') → _) ∧ ((∀ s', Inv X pins σ H s' → Q (.bool (!decide (Ky.s z ∈ zs.map Ky.s))) s') → _)
      rw [h3, RelO.isSome ro]
      constructor
      · intro h
        refine wpAny_in_of (PySem.strKind_is X.prog X.w z t) hkd.low (PySem.W.mapOf_K (prog := X.prog) I.kIn hkd.at_ hkd.lit) ?_
        rw [PySem.W.find_K hkd.at_ e]
        exact h _ (I.tok _)
      · intro h
        refine wpAny_notIn_of (PySem.strKind_is X.prog X.w z t) hkd.low (PySem.W.mapOf_K (prog := X.prog) I.kIn hkd.at_ hkd.lit) ?_
        rw [PySem.W.find_K hkd.at_ e]
        exact h _ (I.tok _)
theorem ky_bind {k : D} {β : Type} {f : Ky → Option β} {b : β} (h : (kyOf k).bind f = some b) : ∃ q, kyOf k = some q ∧ f q = some b := by
  cases e : kyOf k with
  | none => rw [e] at h; cases h
  | some q => rw [e] at h; exact ⟨q, rfl, h⟩
theorem ite_some {c : Bool} {β : Type} {x : Option β} {b : β} (h : (if c = true then x else none) = some b) : c = true ∧ x = some b := by
  cases c with
  | true => exact ⟨rfl, h⟩
  | false => cases h
/-- x in y, not in -/
theorem in_at (I : Inv X pins σ H s) (fh : Sub F H) (hu : X.A.units + 64 < cLine) {x y : VV} {u w : Value} {d e : D} {b : Bool} (hx : Sh (zd X cls) F H x d) (hy : Sh (zd X cls) F H y e) (r : RelV x u) (r' : RelV y w) (h : inD d e = some b) {Q : VK} :
    (Q (.bl b) H → wpAny (model X.prog X.w) X.A (compareOp .In u w) (EP X pins σ Q) X.xe s) ∧ (Q (.bl (!b)) H → wpAny (model X.prog X.w) X.A (compareOp .NotIn u w) (EP X pins σ Q) X.xe s) := by
  have seq : ∀ {ys : List D} {vs : List VV} {its : List Value} {c : Bool}, Vals vs its → RpL (zd X cls) F vs ys → anyD d ys = some c →
      ∃ e : Value → Bool, (∀ y ∈ its.toArray, EqAt X.A.in1 s y u (e y)) ∧ its.toArray.any e = c := by
    intro ys vs its c rv l hc
    obtain ⟨e, h1, h2⟩ := any_at I fh hx r rv l hc (A := X.A) (by omega)
    exact ⟨e, fun y hy => h1 y (by simpa using hy), by simpa using h2⟩
  cases e with
  | tup ys =>
    obtain ⟨a, vs, rfl, q, l⟩ := hy.tup fh
    cases r'
    obtain ⟨its, rv, p, _⟩ := I.tuple q
    obtain ⟨e, h1, h2⟩ := seq rv l (by cases d <;> exact h)
    exact ⟨fun hq => SeqAt.in_tupleAt e p h1 (fin_bl I hq h2.symm), fun hq => SeqAt.notIn_tupleAt e p h1 (fin_bl I hq (congrArg Bool.not h2.symm))⟩
  | lst ys =>
    obtain ⟨a, vs, rfl, q, l⟩ := hy.lst fh
    cases r'
    obtain ⟨its, rv, p, _⟩ := I.list (SqL.of q)
    obtain ⟨e, h1, h2⟩ := seq rv l (by cases d <;> exact h)
    exact ⟨fun hq => SeqAt.in_listAt e p.isList h1 (fin_bl I hq h2.symm), fun hq => SeqAt.notIn_listAt e p.isList h1 (fin_bl I hq (congrArg Bool.not h2.symm))⟩
  | str z =>
    cases hy.str
    cases d with
    | str a =>
      cases hx.str
      have h' : (match a.cps.toList with | [c] => some (decide (c ∈ z.cps.toList)) | _ => none) = some b := h
      split at h'
      · rename_i c hc
        cases h'
        have ea : a = ⟨#[c]⟩ := by
          cases a with
          | mk cps =>
            have : cps = #[c] := by rw [← Array.toList_inj]; exact hc
            rw [this]
        subst ea
        exact ⟨fun hq => op_in_sign pins s σ H _ _ u w Q I r r' ⟨c, z, rfl, rfl, hq⟩, fun hq => op_notIn_sign pins s σ H _ _ u w Q I r r' ⟨c, z, rfl, rfl, hq⟩⟩
      · cases h'
    | _ => cases h
  | dic ks ds =>
    have h' : ((kyOf d).bind fun k => if kyFit k ks = true then some (decide (k ∈ ks)) else none) = some b := by cases d <;> exact h
    obtain ⟨k, hk, h2⟩ := ky_bind h'
    obtain ⟨fit, h3⟩ := ite_some h2
    cases h3
    obtain ⟨z1, z2⟩ := in_dic (A := X.A) (E := X.xe) I fh (by omega) hx hk hy r r' fit (Q := EP X pins σ Q)
    exact ⟨fun hq => z1 fun s' I' => ⟨.bl _, H, I', rfl, hq⟩, fun hq => z2 fun s' I' => ⟨.bl _, H, I', rfl, hq⟩⟩
  | _ => cases d <;> cases h
end
section
variable {X : Cx} {cls : Nm}
theorem opr_cmp (hu : X.A.units + 64 < cLine) (op : COp) : OpR X (compareOp (cpOf op)) (rC (zd X cls) (cmpD op)) := by
  intro pins s σ H x y v u Q I rx ry h
  obtain ⟨F, d, e, b, fh, hd, he, hf, q⟩ := h
  cases op with
  | eq =>
    obtain ⟨h1, _⟩ := rc_at (n := 59) I fh hd he rx ry hf (A := X.A) (by omega)
    exact h1 X.prog X.w _ _ ⟨.bl b, H, I, rfl, q⟩
  | ne =>
    obtain ⟨c, hc, e⟩ := Option.map_eq_some_iff.mp hf
    obtain ⟨_, h1⟩ := rc_at (n := 59) I fh hd he rx ry hc (A := X.A) (by omega)
    exact h1 X.prog X.w _ _ ⟨.bl b, H, I, by rw [← e]; rfl, q⟩
  | lt =>
    cases d with
    | int i => cases e with
      | int j => cases hf; cases hd.int; cases he.int; exact op_lt pins s σ H _ _ v u Q I rx ry ⟨i, j, rfl, rfl, q⟩
      | _ => cases hf
    | _ => cases e <;> cases hf
  | le =>
    cases d with
    | int i => cases e with
      | int j => cases hf; cases hd.int; cases he.int; exact op_le pins s σ H _ _ v u Q I rx ry ⟨i, j, rfl, rfl, q⟩
      | _ => cases hf
    | _ => cases e <;> cases hf
  | gt =>
    cases d with
    | int i => cases e with
      | int j => cases hf; cases hd.int; cases he.int; exact op_gt pins s σ H _ _ v u Q I rx ry ⟨i, j, rfl, rfl, q⟩
      | _ => cases hf
    | _ => cases e <;> cases hf
  | ge =>
    cases d with
    | int i => cases e with
      | int j => cases hf; cases hd.int; cases he.int; exact op_ge pins s σ H _ _ v u Q I rx ry ⟨i, j, rfl, rfl, q⟩
      | _ => cases hf
    | _ => cases e <;> cases hf
  | is =>
    cases e with
    | non =>
      cases he.non
      refine op_isN pins s σ H _ _ v u Q I rx ry ⟨rfl, ?_⟩
      rw [hd.non_iff]
      cases d <;> (cases hf; exact q)
    | bl b2 =>
      cases d with
      | bl a2 =>
        cases hd.bl
        cases he.bl
        cases hf
        exact op_is_bl pins s σ H _ _ v u Q I rx ry ⟨a2, b2, rfl, rfl, q⟩
      | _ => cases hf
    | _ => cases d <;> cases hf
  | isnot =>
    cases e with
    | non =>
      cases he.non
      refine op_notN pins s σ H _ _ v u Q I rx ry ⟨rfl, ?_⟩
      rw [hd.non_iff]
      cases d <;> (cases hf; exact q)
    | bl b2 =>
      cases d with
      | bl a2 =>
        cases hd.bl
        cases he.bl
        cases hf
        exact op_isnot_bl pins s σ H _ _ v u Q I rx ry ⟨a2, b2, rfl, rfl, q⟩
      | _ => cases hf
    | _ => cases d <;> cases hf
  | isin => exact (in_at I fh hu hd he rx ry (by cases d <;> cases e <;> exact hf)).1 q
  | notin =>
    have hf' : (inD d e).map (! ·) = some b := by cases d <;> cases e <;> exact hf
    obtain ⟨c, hc, e⟩ := Option.map_eq_some_iff.mp hf'
    exact (in_at I fh hu hd he rx ry hc).2 (by rw [e]; exact q)
/-! ### items -/
abbrev rV (Z : Wd) (f : D → D → Option D) : R2 := fun x y H Q => ∃ F d e w, Sub F H ∧ Sh Z F H x d ∧ Sh Z F H y e ∧ f d e = some w ∧ ∀ v, Rp Z F v w → Q v H
theorem place_at {α : Type} {xs : List α} {i : Int} {d : α} (h : itemAt xs i = some d) : ∃ j, ixN xs.length i = some j ∧ xs[j]? = some d := by
  unfold itemAt at h
  obtain ⟨j, hj, e⟩ := Option.bind_eq_some_iff.mp h
  refine ⟨j, ?_, e⟩
  unfold place at hj
  unfold ixN
  exact hj
theorem place_len {n : Nat} {i : Int} : ixN n i = place n i := rfl
theorem RpL.at {Z : Wd} {F : Hp} {vs : List VV} {ds : List D} {i : Int} {d : D} (l : RpL Z F vs ds) (h : itemAt ds i = some d) : ∃ v, atI vs i = some v ∧ Rp Z F v d := by
  obtain ⟨j, h1, h2⟩ := place_at h
  obtain ⟨v, h3, r⟩ := l.get h2
  refine ⟨v, ?_, r⟩
  unfold atI
  rw [l.length, h1]
  exact h3
theorem ixr (hu : X.A.units + 64 < cLine) : IxR X (rV (zd X cls) idxD) := by
  intro value slice pins s σ H x y v u Q I rx ry h hs
  obtain ⟨F, d, e, w, fh, hd, he, hf, q⟩ := h
  cases d with
  | tup ds => cases e with
    | int i =>
      obtain ⟨a, vs, rfl, hq, l⟩ := hd.tup fh
      cases he.int
      obtain ⟨v0, h1, r⟩ := l.at hf
      exact ix_tup value slice pins s σ H _ _ v u Q I rx ry ⟨a, vs, i, v0, rfl, rfl, hq, h1, q v0 r⟩ hs
    | _ => cases hf
  | lst ds => cases e with
    | int i =>
      obtain ⟨a, vs, rfl, hq, l⟩ := hd.lst fh
      cases he.int
      obtain ⟨v0, h1, r⟩ := l.at hf
      exact ix_list value slice pins s σ H _ _ v u Q I rx ry ⟨a, vs, i, v0, rfl, rfl, SqL.of hq, h1, q v0 r⟩ hs
    | _ => cases hf
  | str z => cases e with
    | int i =>
      cases hd.str
      cases he.int
      have hf' : (if z.length ≤ lim then (itemAt z.cps.toList i).map fun c => D.str ⟨#[c]⟩ else none) = some w := hf
      by_cases hl : z.length ≤ lim
      · rw [if_pos hl] at hf'
        obtain ⟨c, hc, rfl⟩ := Option.map_eq_some_iff.mp hf'
        obtain ⟨j, h1, h2⟩ := place_at hc
        refine ix_str value slice pins s σ H _ _ v u Q I rx ry ⟨z, i, c, rfl, rfl, hl, ?_, q _ (.str _)⟩ hs
        unfold atI
        rw [h1]
        exact h2
      · rw [if_neg hl] at hf'; cases hf'
    | _ => cases hf
  | dic ks ds =>
    have h' : ((kyOf e).bind fun k => if kyFit k ks = true then look k ks ds else none) = some w := by cases e <;> exact hf
    obtain ⟨k, hk, h2⟩ := ky_bind h'
    obtain ⟨fit, h3⟩ := ite_some h2
    obtain ⟨qq, rfl, rfl⟩ := kyOf_key he hk
    rcases hd.dic fh with ⟨a, qs, vs, rfl, ha, hl, nd, rfl, l⟩ | ⟨a, es, n, zs, vs, rfl, hkd, nz, hl, nd, hr, rfl, l⟩
    · cases rx
      obtain ⟨v0, h4, r⟩ := (look_val (q := qq) hl l).1 w h3
      obtain ⟨z, hd', vs', rel, dd⟩ := dk_rd I.hok (.of ha)
      exact tail_any dd.typeIs slot_dict_getitem.lookup (d_getItem (by omega) I (.inl ⟨_, _, .of ha, rfl, h4.symm⟩) ry fun w' s' I' r' => ⟨v0, H, I', r', q v0 r⟩) hs
    · cases rx
      obtain ⟨z, hz⟩ := fit_str fit nz
      cases qq with
      | inl i => cases hz
      | inr z' =>
        cases hz
        obtain ⟨v0, h4, r⟩ := (look_lk (z := z) hl l).1 w h3
        obtain ⟨rr, e2, ro⟩ := hr z
        rw [h4] at ro
        cases rr with
        | none => exact ro.elim
        | some u0 => exact ix_kdict value slice pins s σ H (.ref a) _ _ u Q I rfl ry ⟨a, z, v0, rfl, rfl, ⟨es, n, u0, hkd.at_, hkd.lit, e2, ro⟩, q v0 r⟩ hs
  | _ => cases e <;> cases hf
/-! ### slices -/
abbrev rSl (Z : Wd) (f : D → Option Int → Option Int → Option D) : VV → Option Int → Option Int → Hp → VK → Prop := fun x lo hi H Q => ∃ F d w, Sub F H ∧ Sh Z F H x d ∧ f d lo hi = some w ∧ After Z F H (ownW w) Q
theorem clip_ix (n d : Nat) (v : Option Int) : clip n d v = HT.sIx n d v := by cases v <;> rfl
theorem cut_len {vs : List VV} {ds : List D} {Z : Wd} {F : Hp} (l : RpL Z F vs ds) (lo hi : Option Int) : RpL Z F (cutV vs lo hi) (cutD ds lo hi) := by
  unfold cutV cutD
  rw [l.length, clip_ix, clip_ix]
  exact (l.drop _).take _
theorem slr : L2.SlR X (rSl (zd X cls) sliceD) := by
  intro pins s σ H x v vl vu lo hi sl Q I rx hs pl pu h
  obtain ⟨F, d, w, fh, hd, hf, af⟩ := h
  cases d with
  | tup ds =>
    obtain ⟨a, vs, rfl, hq, l⟩ := hd.tup fh
    cases hf
    refine sl_tupA pins s σ H _ v vl vu lo hi sl Q I rx hs pl pu ⟨a, vs, rfl, hq, fun hw => ?_, fun _ p hp => After.new_tup fh af (cut_len l lo hi) hp⟩
    rcases hd with hd | ⟨_, _, o, _, w, e⟩
    · have e : cutD ds lo hi = ds := by
        unfold cutD
        rw [clip_ix, clip_ix, ← l.length, hw.1, hw.2, List.drop_zero, Nat.sub_zero, l.length, List.take_length]
      have af' : After (zd X cls) F H (.val (.tup ds)) Q := by rw [e] at af; exact af
      exact af'.val fh hd
    · cases o <;> cases e
  | lst ds =>
    obtain ⟨a, vs, rfl, hq, l⟩ := hd.lst fh
    cases hf
    exact sl_list pins s σ H _ v vl vu lo hi sl Q I rx hs pl pu ⟨a, vs, rfl, SqL.of hq, fun p hp => After.own_lst fh af (cut_len l lo hi) hp⟩
  | str z =>
    cases hd.str
    have hf' : (if z.length ≤ lim then some (D.str ⟨(cutD z.cps.toList lo hi).toArray⟩) else none) = some w := hf
    by_cases hl : z.length ≤ lim
    · rw [if_pos hl] at hf'
      cases hf'
      have e : (⟨(cutD z.cps.toList lo hi).toArray⟩ : Str) = cutS z lo hi := by
        unfold cutS cutD
        rw [clip_ix, clip_ix]
        rfl
      exact sl_str pins s σ H _ v vl vu lo hi sl Q I rx hs pl pu ⟨z, rfl, hl, by rw [← e]; exact af.val fh (.str _)⟩
    · rw [if_neg hl] at hf'; cases hf'
  | _ => cases hf
end
end Py
set_option Elab.async false
set_option linter.all false
set_option maxRecDepth 100000
set_option maxHeartbeats 4000000
/-! PyK: builtins as rules. -/
namespace Py
open PySem PySem.Spec L2 PySem.SeqAt PyProof.Rows
inductive ShL (Z : Wd) (F H : Hp) : List VV → List D → Prop where
  | nil : ShL Z F H [] []
  | cons {v : VV} {vs : List VV} {d : D} {ds : List D} : Sh Z F H v d → ShL Z F H vs ds → ShL Z F H (v :: vs) (d :: ds)
abbrev rBI (Z : Wd) (b : BI) : List VV → Hp → VK → Prop := fun xs H Q => ∃ F ds w, Sub F H ∧ ShL Z F H xs ds ∧ biD b ds = some w ∧ After Z F H (ownW w) Q
theorem CallR.as {X : Cx} {f : Value} {r r' : List VV → Hp → VK → Prop} (h : CallR X f r) (k : ∀ xs H Q, r' xs H Q → r xs H Q) : CallR X f r' := fun pins s σ H xs us Q I rx q => h pins s σ H xs us Q I rx (k xs H Q q)
section
variable {Z : Wd} {F H : Hp}
theorem ShL.one {xs : List VV} {d : D} (h : ShL Z F H xs [d]) : ∃ v, xs = [v] ∧ Sh Z F H v d := by
  cases h with
  | cons a b => cases b; exact ⟨_, rfl, a⟩
theorem ShL.two {xs : List VV} {d e : D} (h : ShL Z F H xs [d, e]) : ∃ v w, xs = [v, w] ∧ Sh Z F H v d ∧ Sh Z F H w e := by
  cases h with
  | cons a b => cases b with
    | cons c d => cases d; exact ⟨_, _, rfl, a, c⟩
theorem bls_of {vs : List VV} : ∀ {ds : List D} {bs : List Bool}, RpL Z F vs ds → allB ds = some bs → vs = bs.map L2.V.bl := by
  induction vs with
  | nil => intro ds bs l h; cases l; cases h; rfl
  | cons v vs ih =>
    intro ds bs l h
    cases l with
    | @cons _ _ d ds r l =>
      cases d with
      | bl b =>
        have h' : (allB ds).map (b :: ·) = some bs := h
        obtain ⟨c, hc, rfl⟩ := Option.map_eq_some_iff.mp h'
        cases r
        rw [ih l hc]; rfl
      | _ => cases h
theorem ints_of {vs : List VV} : ∀ {ds : List D} {bs : List Int}, RpL Z F vs ds → allI ds = some bs → vs = bs.map L2.V.int := by
  induction vs with
  | nil => intro ds bs l h; cases l; cases h; rfl
  | cons v vs ih =>
    intro ds bs l h
    cases l with
    | @cons _ _ d ds r l =>
      cases d with
      | int b =>
        have h' : (allI ds).map (b :: ·) = some bs := h
        obtain ⟨c, hc, rfl⟩ := Option.map_eq_some_iff.mp h'
        cases r
        rw [ih l hc]; rfl
      | _ => cases h
end
/-! ### what repr sees -/
/-- the entries of a dict of ints and texts -/
theorem pairs_read {P : Program} {w : World} {h : Heap} : ∀ {es : List DictEntry} {qs : List Key} {vs : List VV} {ws : List (Key × Value)}, Pairs (mixKind P w) es ws → KV (qs.zip vs) ws → qs.length = vs.length →
    ReadsAll h (es.map (·.key)) (qs.map fun q => kyPy (kyK q)) [] ∧ Vals vs (es.map (·.val))
  | _, [], [], _, hp, hk, _ => by
    cases hk
    cases hp
    exact ⟨.nil, .nil⟩
  | _, [], _ :: _, _, _, _, hl => by cases hl
  | _, _ :: _, [], _, _, _, hl => by cases hl
  | es0, q :: qs, v :: vs, _, hp, hk, hl => by
    cases hk with
    | @cons _ kw _ ws hkv hk =>
      obtain ⟨e1, e2⟩ := hkv
      cases hp with
      | @cons e0 _ _ _ hq hv hp =>
        obtain ⟨r1, r2⟩ := pairs_read (h := h) hp hk (by simpa using hl)
        rw [List.map_cons, List.map_cons, List.map_cons]
        refine ⟨?_, .cons (by rw [hv]; exact e2) r2⟩
        have hr : Reads h e0.key (kyPy (kyK q)) [] := by
          have hq' : keyIs kw.1 e0.key = true := hq
          rw [← e1] at hq'
          rcases keyIs_shape hq' with ⟨i, t, e3, e4⟩ | ⟨x, t, e3, e4⟩
          · rw [e4]
            have e3' : q = .inl i := e3
            subst e3'
            exact .int i t
          · rw [e4]
            have e3' : q = .inr x := e3
            subst e3'
            exact .str x t
        exact .cons hr r1
theorem reads_dK {X : Cx} {pins : List (Addr × Obj)} {σ : Sg} {H : Hp} {s : Shared} {a : Addr} {qs : List Key} {vs : List VV} {ps : List PyData} (I : Inv X pins σ H s) (hS : H sysModules = none) (hd : H a = some (.dK (qs.zip vs))) (e1 : qs.length = vs.length) (hl : (qs.map kyK).length = ps.length)
    (k : ∀ us, Vals vs us → ∃ as, ReadsAll s.heap us ps as ∧ sysModules ∉ as) : ∃ as, Reads s.heap (.ref a) (.dict (((qs.map kyK).map kyPy).zip ps)) as ∧ sysModules ∉ as := by
  obtain ⟨_, hne, ws, r, o, es, ep, ho, hex, hdt, _, hp, _⟩ := dk_of I.hok hd
  obtain ⟨r1, r2⟩ := pairs_read (h := s.heap) hp r e1
  obtain ⟨as, ra, rs⟩ := k _ r2
  have l1 : (((qs.map kyK).map kyPy).zip ps).map (·.1) = qs.map fun q => kyPy (kyK q) := by
    rw [List.map_fst_zip (by simpa using Nat.le_of_eq hl), List.map_map]
    rfl
  have l2 : (((qs.map kyK).map kyPy).zip ps).map (·.2) = ps := List.map_snd_zip (by simpa using Nat.le_of_eq hl.symm)
  refine ⟨_, .dict ho hex.1 hdt (by rw [l1]; exact r1) (by rw [l2]; exact ra), fun z => ?_⟩
  have z : sysModules ∈ a :: as := z
  rcases List.mem_cons.mp z with z | z
  · subst z
    simp at hne
  · exact rs z
theorem reads_dik {X : Cx} {pins : List (Addr × Obj)} {σ : Sg} {H : Hp} {s : Shared} {a : Addr} {es : Array DictEntry} {n : Nat} {ks : List Str} {ps : List PyData} (I : Inv X pins σ H s) (D : KDict X.K X.w a es n) (k1 : Paired (fun (e : DictEntry) (k : Str) => ∃ t, e.key = .str k t) es.toList ks) (hl : (ks.map Ky.s).length = ps.length)
    (k : ∃ as, ReadsAll s.heap (es.toList.map (·.val)) ps as ∧ sysModules ∉ as) : ∃ as, Reads s.heap (.ref a) (.dict (((ks.map Ky.s).map kyPy).zip ps)) as ∧ sysModules ∉ as := by
  obtain ⟨as, ra, rs⟩ := k
  have key : ∀ {l : List DictEntry} {ks : List Str}, Paired (fun (e : DictEntry) (k : Str) => ∃ t, e.key = .str k t) l ks → ReadsAll s.heap (l.map (·.key)) (ks.map PyData.str) [] := by
    intro l ks h
    induction h with
    | nil => exact .nil
    | cons h _ ih =>
      obtain ⟨t, e⟩ := h
      rw [List.map_cons, List.map_cons, e]
      exact .cons (as := []) (bs := []) (.str _ t) ih
  have l1 : (((ks.map Ky.s).map kyPy).zip ps).map (·.1) = ks.map PyData.str := by
    rw [List.map_fst_zip (by simpa using Nat.le_of_eq hl), List.map_map]
    rfl
  have l2 : (((ks.map Ky.s).map kyPy).zip ps).map (·.2) = ps := List.map_snd_zip (by simpa using Nat.le_of_eq hl.symm)
  refine ⟨_, .dict (I.kIn _ _ D.at_) rfl rfl (by rw [l1]; exact key k1) (by rw [l2]; exact ra), fun z => ?_⟩
  have z : sysModules ∈ a :: as := z
  rcases List.mem_cons.mp z with z | z
  · have := D.low
    subst z
    simp at this
  · exact rs z
mutual
theorem reads_of {X : Cx} {cls : Nm} {pins : List (Addr × Obj)} {σ : Sg} {F H : Hp} {s : Shared} (I : Inv X pins σ H s) (fh : Sub F H) (hS : H sysModules = none) : ∀ (d : D) (p : PyData) (v : VV) (u : Value), toPy d = some p → Rp (zd X cls) F v d → RelV v u → ∃ as, Reads s.heap u p as ∧ sysModules ∉ as
  | .non, p, v, u, h, r, ru => by cases h; cases r; cases ru; exact ⟨_, .none, by simp⟩
  | .bl b, p, v, u, h, r, ru => by cases h; cases r; cases ru; exact ⟨_, .bool b, by simp⟩
  | .int i, p, v, u, h, r, ru => by cases h; cases r; obtain ⟨t, rfl⟩ := ru; exact ⟨_, .int i t, by simp⟩
  | .str i, p, v, u, h, r, ru => by cases h; cases r; obtain ⟨t, rfl⟩ := ru; exact ⟨_, .str i t, by simp⟩
  | .tup ds, p, v, u, h, r, ru => by
    have h' : (toPys ds).map PyData.tuple = some p := h
    obtain ⟨ps, hp, rfl⟩ := Option.map_eq_some_iff.mp h'
    cases r with
    | tup q l =>
      cases ru
      obtain ⟨its, rv, ht, _⟩ := I.tuple (sqT_mono fh q)
      obtain ⟨as, ra, rs⟩ := readsL_of I fh hS ds ps _ its hp l rv
      obtain ⟨o, e, c, n, dd⟩ := ht
      exact ⟨_, .tuple e c dd ra, rs⟩
  | .lst ds, p, v, u, h, r, ru => by
    have h' : (toPys ds).map PyData.list = some p := h
    obtain ⟨ps, hp, rfl⟩ := Option.map_eq_some_iff.mp h'
    cases r with
    | lst q l =>
      cases ru
      obtain ⟨its, rv, ht, _⟩ := I.list (SqL.of (fh _ _ q))
      obtain ⟨as, ra, rs⟩ := readsL_of I fh hS ds ps _ its hp l rv
      obtain ⟨o, e, c, n, dd⟩ := ht.isList
      refine ⟨_, .list e c dd ra, fun z => ?_⟩
      rcases List.mem_cons.mp z with z | z
      · have q' := fh _ _ q
        rw [← z, hS] at q'
        cases q'
      · exact rs z
  | .dic ks ds, p, v, u, h, r, ru => by
    cases e : toPys ds with
    | none =>
      have h' : (match toPys ds with | some ps => if ks.length = ps.length then some (PyData.dict ((ks.map kyPy).zip ps)) else none | none => none) = some p := h
      rw [e] at h'
      cases h'
    | some ps =>
      have h' : (match toPys ds with | some ps => if ks.length = ps.length then some (PyData.dict ((ks.map kyPy).zip ps)) else none | none => none) = some p := h
      rw [e] at h'
      have h2 : (if ks.length = ps.length then some (PyData.dict ((ks.map kyPy).zip ps)) else none) = some p := h'
      by_cases hl : ks.length = ps.length
      · rw [if_pos hl] at h2
        cases h2
        cases r with
        | dic q e1 n l =>
          cases ru
          exact reads_dK I hS (fh _ _ q) e1 hl fun us rv => readsL_of I fh hS ds ps _ us e l rv
        | dik D z e1 n g k1 k2 l =>
          cases ru
          exact reads_dik I D k1 hl (readsL_of I fh hS ds ps _ _ e l k2)
      · rw [if_neg hl] at h2
        cases h2
  | .ins .., p, v, u, h, r, ru => by cases h
  | .scr _, p, v, u, h, r, ru => by cases h
theorem readsL_of {X : Cx} {cls : Nm} {pins : List (Addr × Obj)} {σ : Sg} {F H : Hp} {s : Shared} (I : Inv X pins σ H s) (fh : Sub F H) (hS : H sysModules = none) : ∀ (ds : List D) (ps : List PyData) (vs : List VV) (us : List Value), toPys ds = some ps → RpL (zd X cls) F vs ds → Vals vs us → ∃ as, ReadsAll s.heap us ps as ∧ sysModules ∉ as
  | [], ps, vs, us, h, l, rv => by cases h; cases l; cases rv; exact ⟨_, .nil, by simp⟩
  | d :: ds, ps, vs, us, h, l, rv => by
    cases l with
    | cons r l =>
      cases rv with
      | cons ru rv =>
        have h' : (match toPy d, toPys ds with | some d, some ds => some (d :: ds) | _, _ => none) = some ps := h
        cases e1 : toPy d with
        | none => rw [e1] at h'; cases h'
        | some p =>
          cases e2 : toPys ds with
          | none => rw [e1, e2] at h'; cases h'
          | some ps' =>
            rw [e1, e2] at h'
            cases h'
            obtain ⟨as, ra, rs⟩ := reads_of I fh hS d p _ _ e1 r ru
            obtain ⟨bs, rb, rt⟩ := readsL_of I fh hS ds ps' _ _ e2 l rv
            exact ⟨_, .cons ra rb, fun z => (List.mem_append.mp z).elim rs rt⟩
end
def biV : BI → Value
  | .len => .builtin "len"
  | .all => .builtin "all"
  | .any => .builtin "any"
  | .list => .type "list"
  | .tuple => .type "tuple"
  | .str => .type "str"
  | .int => .type "int"
  | .repr => .builtin "repr"
  | .abs => .builtin "abs"
  | .min => .builtin "min"
  | .max => .builtin "max"
  | .sum => .builtin "sum"
  | .range => .type "range"
  | .lenset => .builtin "len"
  | .sorted => .builtin "sorted"
section
variable {X : Cx} {cls : Nm}
theorem Sh.len {Z : Wd} {F H : Hp} {v : VV} {d : D} {n : Nat} (h : Sh Z F H v d) (fh : Sub F H) (e : lenD d = some n) : LenV Z.K v H n := by
  cases d with
  | tup ds =>
    obtain ⟨a, vs, rfl, q, l⟩ := h.tup fh
    cases e
    exact .inr ⟨vs, q, l.length.symm⟩
  | lst ds =>
    obtain ⟨a, vs, rfl, q, l⟩ := h.lst fh
    cases e
    exact .inl ⟨vs, SqL.of q, l.length.symm⟩
  | str z =>
    cases h.str
    have e' : (if z.length ≤ lim then some z.length else none) = some n := e
    by_cases hl : z.length ≤ lim
    · rw [if_pos hl] at e'; cases e'; exact ⟨hl, rfl⟩
    · rw [if_neg hl] at e'; cases e'
  | scr ns =>
    obtain ⟨a, rfl, q⟩ := h.scr fh
    cases e
    exact .inl ⟨_, q, by simp⟩
  | _ => cases e
theorem cr_bi (hK : (X.K.lookup sysModules).isSome = true) (hc : X.calm = true) (hg : X.A.guards = some []) (hu : X.A.units + 180 < cLine) (b : BI) : CallR X (biV b) (rBI (zd X cls) b) := by
  intro pins s σ H xs us Q I r h
  obtain ⟨F, ds, w, fh, hd, hf, af⟩ := h
  have hS : H sysModules = none := by
    obtain ⟨o, ho⟩ := Option.isSome_iff_exists.mp hK
    exact (I.bs _ _ (I.mod.kin _ _ ho)).2
  cases b with
  | len =>
    match ds, hd, hf with
    | [d], hd, hf =>
      obtain ⟨v, rfl, hv⟩ := hd.one
      obtain ⟨n, hn, rfl⟩ := Option.map_eq_some_iff.mp (show (lenD d).map (fun (n : Nat) => D.int (n : Int)) = some w from hf)
      exact call_len pins s σ H _ us Q I r ⟨v, n, rfl, hv.len fh hn, af.val fh (.int _)⟩
    | [], hd, hf => cases hf
    | [_, _], hd, hf => cases hf
    | _ :: _ :: _ :: _, hd, hf => cases hf
  | all =>
    match ds, hd, hf with
    | [d], hd, hf =>
      obtain ⟨v, rfl, hv⟩ := hd.one
      cases d with
      | lst xs =>
        obtain ⟨bs, hb, rfl⟩ := Option.map_eq_some_iff.mp (show (allB xs).map (fun bs => D.bl (bs.all id)) = some w from hf)
        obtain ⟨a, vs, rfl, q, l⟩ := hv.lst fh
        rw [bls_of l hb] at q
        exact cr_all hc pins s σ H _ us Q I r ⟨a, bs, rfl, SqL.of q, af.val fh (.bl _)⟩
      | _ => cases hf
    | [], hd, hf => cases hf
    | [_, _], hd, hf => cases hf
    | _ :: _ :: _ :: _, hd, hf => cases hf
  | any =>
    match ds, hd, hf with
    | [d], hd, hf =>
      obtain ⟨v, rfl, hv⟩ := hd.one
      cases d with
      | lst xs =>
        obtain ⟨bs, hb, rfl⟩ := Option.map_eq_some_iff.mp (show (allB xs).map (fun bs => D.bl (bs.any id)) = some w from hf)
        obtain ⟨a, vs, rfl, q, l⟩ := hv.lst fh
        rw [bls_of l hb] at q
        exact cr_any hc pins s σ H _ us Q I r ⟨a, bs, rfl, SqL.of q, af.val fh (.bl _)⟩
      | _ => cases hf
    | [], hd, hf => cases hf
    | [_, _], hd, hf => cases hf
    | _ :: _ :: _ :: _, hd, hf => cases hf
  | sum =>
    match ds, hd, hf with
    | [d], hd, hf =>
      obtain ⟨v, rfl, hv⟩ := hd.one
      cases d with
      | lst xs =>
        obtain ⟨bs, hb, rfl⟩ := Option.map_eq_some_iff.mp (show (allI xs).map (fun ns => D.int ns.sum) = some w from hf)
        obtain ⟨a, vs, rfl, q, l⟩ := hv.lst fh
        rw [ints_of l hb] at q
        exact cr_sum hc pins s σ H _ us Q I r ⟨a, bs, rfl, SqL.of q, af.val fh (.int _)⟩
      | _ => cases hf
    | [], hd, hf => cases hf
    | [_, _], hd, hf => cases hf
    | _ :: _ :: _ :: _, hd, hf => cases hf
  | list =>
    match ds, hd, hf with
    | [d], hd, hf =>
      obtain ⟨v, rfl, hv⟩ := hd.one
      cases d with
      | lst xs =>
        cases hf
        obtain ⟨a, vs, rfl, q, l⟩ := hv.lst fh
        exact call_list_of pins s σ H _ us Q I r ⟨a, vs, rfl, .inl (SqL.of q), fun p hp => After.own_lst fh af l hp⟩
      | tup xs =>
        cases hf
        obtain ⟨a, vs, rfl, q, l⟩ := hv.tup fh
        exact call_list_of pins s σ H _ us Q I r ⟨a, vs, rfl, .inr q, fun p hp => After.own_lst fh af l hp⟩
      | _ => cases hf
    | [], hd, hf => cases hf
    | [_, _], hd, hf => cases hf
    | _ :: _ :: _ :: _, hd, hf => cases hf
  | tuple =>
    match ds, hd, hf with
    | [d], hd, hf =>
      obtain ⟨v, rfl, hv⟩ := hd.one
      cases d with
      | lst xs =>
        cases hf
        obtain ⟨a, vs, rfl, q, l⟩ := hv.lst fh
        exact call_tuple_of pins s σ H _ us Q I r ⟨a, vs, rfl, .inl ⟨SqL.of q, fun p hp => After.new_tup fh af l hp⟩⟩
      | tup xs =>
        cases hf
        obtain ⟨a, vs, rfl, q, l⟩ := hv.tup fh
        refine call_tuple_of pins s σ H _ us Q I r ⟨a, vs, rfl, .inr ⟨q, ?_⟩⟩
        rcases hv with hv | ⟨_, _, o, _, _, e⟩
        · exact After.val fh af hv
        · cases o <;> cases e
      | _ => cases hf
    | [], hd, hf => cases hf
    | [_, _], hd, hf => cases hf
    | _ :: _ :: _ :: _, hd, hf => cases hf
  | str =>
    match ds, hd, hf with
    | [d], hd, hf =>
      obtain ⟨v, rfl, hv⟩ := hd.one
      cases d with
      | int i =>
        cases hv.int
        have hf' : (if i.natAbs.log2 < 1920 then some (D.str (toString i)) else none) = some w := hf
        by_cases hl : i.natAbs.log2 < 1920
        · rw [if_pos hl] at hf'; cases hf'
          exact call_str_int pins s σ H _ us Q I r ⟨i, rfl, hl, af.val fh (.str _)⟩
        · rw [if_neg hl] at hf'; cases hf'
      | _ => cases hf
    | [], hd, hf => cases hf
    | [_, _], hd, hf => cases hf
    | _ :: _ :: _ :: _, hd, hf => cases hf
  | int =>
    match ds, hd, hf with
    | [d], hd, hf =>
      obtain ⟨v, rfl, hv⟩ := hd.one
      cases d with
      | int i =>
        cases hv.int
        cases hf
        exact call_int1 pins s σ H _ us Q I r (.inl ⟨i, rfl, af.val fh (.int _)⟩)
      | _ => cases hf
    | [], hd, hf => cases hf
    | [_, _], hd, hf => cases hf
    | _ :: _ :: _ :: _, hd, hf => cases hf
  | abs =>
    match ds, hd, hf with
    | [d], hd, hf =>
      obtain ⟨v, rfl, hv⟩ := hd.one
      cases d with
      | int i =>
        cases hv.int
        cases hf
        exact call_abs pins s σ H _ us Q I r ⟨i, rfl, af.val fh (.int _)⟩
      | _ => cases hf
    | [], hd, hf => cases hf
    | [_, _], hd, hf => cases hf
    | _ :: _ :: _ :: _, hd, hf => cases hf
  | min =>
    match ds, hd, hf with
    | [d, e], hd, hf =>
      obtain ⟨v, u, rfl, hv, hu'⟩ := hd.two
      cases d with
      | int i => cases e with
        | int j =>
          cases hv.int; cases hu'.int; cases hf
          exact call_min2 hc pins s σ H _ us Q I r ⟨i, j, rfl, af.val fh (.int _)⟩
        | _ => cases hf
      | _ => cases e <;> cases hf
    | [], hd, hf => cases hf
    | [_], hd, hf => cases hf
    | _ :: _ :: _ :: _, hd, hf => cases hf
  | max =>
    match ds, hd, hf with
    | [d, e], hd, hf =>
      obtain ⟨v, u, rfl, hv, hu'⟩ := hd.two
      cases d with
      | int i => cases e with
        | int j =>
          cases hv.int; cases hu'.int; cases hf
          exact call_max2 hc pins s σ H _ us Q I r ⟨i, j, rfl, af.val fh (.int _)⟩
        | _ => cases hf
      | _ => cases e <;> cases hf
    | [], hd, hf => cases hf
    | [_], hd, hf => cases hf
    | _ :: _ :: _ :: _, hd, hf => cases hf
  | repr =>
    match ds, hd, hf with
    | [d], hd, hf =>
      obtain ⟨v, rfl, hv⟩ := hd.one
      obtain ⟨z, hz, rfl⟩ := Option.map_eq_some_iff.mp (show (reprD d).map D.str = some w from hf)
      have hz0 : (match toPy d with | some p => if isSeq d = true ∧ p.showable = true ∧ p.shown.length ≤ lim ∧ p.depth ≤ 100 then some p.shown else none | none => none) = some z := hz
      obtain ⟨uu, hus, ru0⟩ : ∃ u, us = [u] ∧ RelV v u := by
        cases r with
        | cons a b => cases b; exact ⟨_, rfl, a⟩
      have scal : (d = .non ∨ (∃ b, d = .bl b) ∨ (∃ i, d = .int i) ∨ ∃ x, d = .str x) → wpAny (model X.prog X.w) X.A (call (.builtin "repr") us) (EP X pins σ Q) X.xe s := by
        intro hd0
        subst hus
        rcases hd0 with rfl | ⟨b, rfl⟩ | ⟨i, rfl⟩ | ⟨x, rfl⟩
        · cases hv.non
          cases ru0
          have e0 : (if isSeq D.non = true ∧ PyData.none.showable = true ∧ PyData.none.shown.length ≤ lim ∧ PyData.none.depth ≤ 100 then some PyData.none.shown else none) = some z := hz0
          split at e0
          · cases e0
            exact PySem.P.repr_of_none ⟨.str _, H, I.tok _, ⟨_, by simp only [PyData.shown] <;> rfl⟩, af.val fh (.str _)⟩
          · cases e0
        · cases hv.bl
          cases ru0
          have e0 : (if isSeq (D.bl b) = true ∧ (PyData.bool b).showable = true ∧ (PyData.bool b).shown.length ≤ lim ∧ (PyData.bool b).depth ≤ 100 then some (PyData.bool b).shown else none) = some z := hz0
          split at e0
          · cases e0
            exact PySem.P.repr_of_bool ⟨.str _, H, I.tok _, ⟨_, by simp only [PyData.shown] <;> rfl⟩, af.val fh (.str _)⟩
          · cases e0
        · cases hv.int
          obtain ⟨t, rfl⟩ := ru0
          have e0 : (if isSeq (D.int i) = true ∧ (PyData.int i).showable = true ∧ (PyData.int i).shown.length ≤ lim ∧ (PyData.int i).depth ≤ 100 then some (PyData.int i).shown else none) = some z := hz0
          split at e0
          · rename_i hc0
            cases e0
            have hsh : i.natAbs.log2 < 1920 := by
              have := hc0.2.1
              simpa [PyData.showable] using this
            exact PySem.P.repr_of_int hsh ⟨.str _, H, I.tok _, ⟨_, by simp only [PyData.shown] <;> rfl⟩, af.val fh (.str _)⟩
          · cases e0
        · cases hv.str
          obtain ⟨t, rfl⟩ := ru0
          have e0 : (if isSeq (D.str x) = true ∧ (PyData.str x).showable = true ∧ (PyData.str x).shown.length ≤ lim ∧ (PyData.str x).depth ≤ 100 then some (PyData.str x).shown else none) = some z := hz0
          split at e0
          · rename_i hc0
            cases e0
            have hl0 : (reprText x).length ≤ sizeLine := by
              have h4 := hc0.2.2.1
              simp only [PyData.shown] at h4
              exact h4
            exact PySem.P.repr_of_str ⟨.str _, H, I.tok _, ⟨_, by simp only [PyData.shown] <;> rfl⟩, af.val fh (.str _)⟩ hl0
          · cases e0
      by_cases hsc : d = .non ∨ (∃ b, d = .bl b) ∨ (∃ i, d = .int i) ∨ ∃ x, d = .str x
      · exact scal hsc
      have key : ∃ a p as, v = .ref a ∧ Reads s.heap (.ref a) p as ∧ p.showable = true ∧ sysModules ∉ as ∧ p.shown.length ≤ lim ∧ p.depth ≤ 100 ∧ p.shown = z := by
        have hz' : (match toPy d with | some p => if isSeq d = true ∧ p.showable = true ∧ p.shown.length ≤ lim ∧ p.depth ≤ 100 then some p.shown else none | none => none) = some z := hz
        cases e : toPy d with
        | none => rw [e] at hz'; cases hz'
        | some p =>
          rw [e] at hz'
          have hz2 : (if isSeq d = true ∧ p.showable = true ∧ p.shown.length ≤ lim ∧ p.depth ≤ 100 then some p.shown else none) = some z := hz'
          split at hz2
          · rename_i hc'
            injection hz2 with hz2
            cases d with
            | tup ds =>
              have h' : (toPys ds).map PyData.tuple = some p := e
              obtain ⟨ps, hp, rfl⟩ := Option.map_eq_some_iff.mp h'
              obtain ⟨a, vs, rfl, q, l⟩ := hv.tup fh
              obtain ⟨its, rv, ht, _⟩ := I.tuple q
              obtain ⟨as, ra, rs⟩ := readsL_of I fh hS ds ps _ its hp l rv
              obtain ⟨o, e, c, n, dd⟩ := ht
              exact ⟨a, _, _, rfl, .tuple e c dd ra, hc'.2.1, rs, hc'.2.2.1, hc'.2.2.2, hz2⟩
            | lst ds =>
              have h' : (toPys ds).map PyData.list = some p := e
              obtain ⟨ps, hp, rfl⟩ := Option.map_eq_some_iff.mp h'
              obtain ⟨a, vs, rfl, q, l⟩ := hv.lst fh
              obtain ⟨its, rv, ht, _⟩ := I.list (SqL.of q)
              obtain ⟨as, ra, rs⟩ := readsL_of I fh hS ds ps _ its hp l rv
              obtain ⟨o, e, c, n, dd⟩ := ht.isList
              refine ⟨a, _, _, rfl, .list e c dd ra, hc'.2.1, fun z => ?_, hc'.2.2.1, hc'.2.2.2, hz2⟩
              rcases List.mem_cons.mp z with z | z
              · rw [← z, hS] at q
                cases q
              · exact rs z
            | dic ks ds =>
              cases e1 : toPys ds with
              | none =>
                have h' : (match toPys ds with | some ps => if ks.length = ps.length then some (PyData.dict ((ks.map kyPy).zip ps)) else none | none => none) = some p := e
                rw [e1] at h'
                cases h'
              | some ps =>
                have h' : (match toPys ds with | some ps => if ks.length = ps.length then some (PyData.dict ((ks.map kyPy).zip ps)) else none | none => none) = some p := e
                rw [e1] at h'
                have h2 : (if ks.length = ps.length then some (PyData.dict ((ks.map kyPy).zip ps)) else none) = some p := h'
                by_cases hl : ks.length = ps.length
                · rw [if_pos hl] at h2
                  cases h2
                  have rr : ∃ a, v = .ref a ∧ ∃ as, Reads s.heap (.ref a) (.dict ((ks.map kyPy).zip ps)) as ∧ sysModules ∉ as := by
                    rcases hv with hv | ⟨p0, fp, o, rfl, w0, e0⟩
                    · cases hv with
                      | dic q e2 n l => exact ⟨_, rfl, reads_dK I hS (fh _ _ q) e2 hl fun us rv => readsL_of I fh hS ds ps _ us e1 l rv⟩
                      | dik D z0 e2 n g k1 k2 l => exact ⟨_, rfl, reads_dik I D k1 hl (readsL_of I fh hS ds ps _ _ e1 l k2)⟩
                    · cases o with
                      | dic ks ds =>
                        cases e0
                        obtain ⟨_, qs, vs, q, e2, n, rfl, l⟩ := w0.r
                        exact ⟨p0, rfl, reads_dK I hS q e2 hl fun us rv => readsL_of I fh hS _ ps _ us e1 l rv⟩
                      | _ => cases e0
                  obtain ⟨a, rfl, as, ra, rs⟩ := rr
                  exact ⟨a, _, _, rfl, ra, hc'.2.1, rs, hc'.2.2.1, hc'.2.2.2, hz2⟩
                · rw [if_neg hl] at h2
                  cases h2
            | non => exact absurd (.inl rfl) hsc
            | bl b => exact absurd (.inr (.inl ⟨b, rfl⟩)) hsc
            | int i => exact absurd (.inr (.inr (.inl ⟨i, rfl⟩))) hsc
            | str x => exact absurd (.inr (.inr (.inr ⟨x, rfl⟩))) hsc
            | _ => exact absurd hc'.1 (by simp [isSeq])
          · cases hz2
      obtain ⟨a, p, as, rfl, rd, h1, h2, h3, h4, rfl⟩ := key
      obtain ⟨u, rfl, ru⟩ : ∃ u, us = [u] ∧ RelV (.ref a) u := by
        cases r with
        | cons a b => cases b; exact ⟨_, rfl, a⟩
      cases ru
      exact repr_of_reads' rd h1 (fun _ => h2) hg (by omega) (fun _ _ e => e) (fun h' u tk hk => ⟨.str _, H, I.kept (t' := tk) hk, ⟨u, rfl⟩, af.val fh (.str _)⟩) h3
    | [], hd, hf => cases hf
    | [_, _], hd, hf => cases hf
    | _ :: _ :: _ :: _, hd, hf => cases hf
  | range => exact (match ds, hf with
    | [_], hf => nomatch hf
    | [_, _], hf => nomatch hf
    | [], hf => nomatch hf
    | _ :: _ :: _ :: _, hf => nomatch hf)
  | lenset => exact (match ds, hf with
    | [_], hf => nomatch hf
    | [_, _], hf => nomatch hf
    | [], hf => nomatch hf
    | _ :: _ :: _ :: _, hf => nomatch hf)
  | sorted => exact (match ds, hf with
    | [_], hf => nomatch hf
    | [_, _], hf => nomatch hf
    | [], hf => nomatch hf
    | _ :: _ :: _ :: _, hf => nomatch hf)
end
end Py
set_option Elab.async false
set_option linter.all false
set_option maxRecDepth 100000
set_option maxHeartbeats 4000000
/-! PyL: reversed copies, isinstance, attributes, dict.get. -/
namespace Py
open PySem PySem.Spec L2 PySem.SeqAt PyProof.Rows HT
section
variable {prog : Program} {w : World} {A : Around} {E : Value → Shared → Prop} {s : Shared}
theorem back_adjust (n : Nat) : Builtin.Slice.sliceAdjust none none (-1) (n : Int) = ((n : Int) - 1, -1) := rfl
theorem back_places (n : Nat) : Builtin.Slice.slicePlaces ((n : Int) - 1) (-1) (-1) = n := by
  unfold Builtin.Slice.slicePlaces
  rw [if_neg (by omega)]
  have e : ((n : Int) - 1 - -1 - 1) / - -1 = (n : Int) - 1 := by
    rw [Int.neg_neg, Int.ediv_one]; omega
  rw [e]
  split <;> omega
theorem back_pick (xs : Array Value) : ((List.range xs.size).filterMap fun (k : Nat) => xs[((xs.size : Int) - 1 + (k : Int) * (-1)).toNat]?).toArray = xs.toList.reverse.toArray := by
  congr 1
  apply List.ext_getElem?
  intro i
  have e : (List.range xs.size).filterMap (fun (k : Nat) => xs[((xs.size : Int) - 1 + (k : Int) * (-1)).toNat]?) = (List.range xs.size).map fun (k : Nat) => xs.toList.getD (xs.size - 1 - k) .none := by
    have gen : ∀ l : List Nat, (∀ k ∈ l, k < xs.size) → l.filterMap (fun (k : Nat) => xs[((xs.size : Int) - 1 + (k : Int) * (-1)).toNat]?) = l.map fun (k : Nat) => xs.toList.getD (xs.size - 1 - k) .none := by
      intro l
      induction l with
      | nil => intro _; rfl
      | cons k l ih =>
        intro hl
        have hk' : k < xs.size := hl k List.mem_cons_self
        have e1 : ((xs.size : Int) - 1 + (k : Int) * (-1)).toNat = xs.size - 1 - k := by omega
        have hlt : xs.size - 1 - k < xs.size := by omega
        have e2 : xs[((xs.size : Int) - 1 + (k : Int) * (-1)).toNat]? = some (xs.toList.getD (xs.size - 1 - k) .none) := by
          rw [e1, Array.getElem?_eq_getElem hlt]
          simp [List.getD, hlt]
        rw [List.filterMap_cons, e2, List.map_cons, ih fun k hk => hl k (List.mem_cons_of_mem _ hk)]
    exact gen _ fun k hk => List.mem_range.mp hk
  rw [e]
  by_cases hi : i < xs.size
  · have h1 : xs.size - 1 - i < xs.size := by omega
    rw [List.getElem?_map, List.getElem?_range hi]
    rw [List.getElem?_reverse (by simpa using hi)]
    simp [List.getD, h1]
  · rw [List.getElem?_eq_none (by simp; omega), List.getElem?_eq_none (by simp; omega)]
theorem back_applied {sl : Addr} {t : Tok} {n : Nat} {Q : Int × Int × Nat → Shared → Prop} (hs : s.heap.IsSliceOf sl .none .none (.int (-1) t))
    (h : Q ((n : Int) - 1, -1, n) s) : wpAny (model prog w) A (Builtin.Slice.sliceApplied (.ref sl) (pure (n : Int))) Q E s := by
  obtain ⟨os, hos, hcs, hds⟩ := id hs
  unfold Builtin.Slice.sliceApplied Builtin.Slice.sliceFields
  refine wpAny_bind (wpAny_bind (wpAny_field hos hds (x := .none) rfl (wpAny_bind (wpAny_field hos hds (x := .none) rfl (wpAny_bind (wpAny_field hos hds (x := .int (-1) t) rfl (wpAny_pure ?_)))))))
  refine wpAny_bind (slicePart_ (.int (-1) t) ?_)
  show wpAny _ _ (if ((-1 : Int) == 0) = true then _ else _) _ _ s
  rw [if_neg (by decide)]
  refine wpAny_bind (slicePart_ .none (wpAny_bind (slicePart_ .none (wpAny_bind (wpAny_pure ?_)))))
  show wpAny _ _ (match Builtin.Slice.sliceAdjust none none (-1) (n : Int) with | (lo, hi) => pure (lo, (-1 : Int), Builtin.Slice.slicePlaces lo hi (-1))) _ _ s
  rw [back_adjust n]
  show wpAny _ _ (pure ((n : Int) - 1, (-1 : Int), Builtin.Slice.slicePlaces ((n : Int) - 1) (-1) (-1))) _ _ s
  rw [back_places]
  exact wpAny_pure h
theorem back_tuple {t sl : Addr} {items : Array Value} {tk : Tok} {Q : Value → Shared → Prop} (ht : IsTup s.heap t items) (hs : s.heap.IsSliceOf sl .none .none (.int (-1) tk))
    (h : Q (.ref s.heap.objs.size) { s with heap := s.heap.push { cls := .type "tuple", data := .seq items.toList.reverse.toArray } })
    (hsz : items.size ≤ sizeLine) : wpAny (model prog w) A (getItem (.ref t) (.ref sl)) Q E s := by
  have htake : sizeOk (.seq items.toList.reverse.toArray) := by
    show items.toList.reverse.toArray.size ≤ sizeLine
    simpa using hsz
  obtain ⟨os, hos, hcs, hds⟩ := id hs
  have hTs : s.TypeIs (.ref sl) "slice" := ⟨os, hos, hcs⟩
  unfold getItem
  try with_reducible refine wpAny_holding ?_
  first | refine wpAny_bind (wpAny_pure ?_) | skip
  refine wpAny_bind (wpAny_sequenceKey ht.typeIs (by decide) ?_)
  refine wpAny_bind (wpAny_callSpecial?_slot (name := Str.ofString "__getitem__") ht.typeIs PyProof.Rows.slot_tuple_getitem (wpAny_call_entry slot_tuple_getitem ht.typeIs entry_tuple_getitem ?_ (args_tuple_getitem _ _)))
  show wpAny _ _ (Builtin.Tuple.tupleItemsOf (.ref t) >>= _) _ _ s
  refine wpAny_bind (tupleItemsOf_ ht ?_)
  refine wpAny_bind (wpAny_typeOf hTs ?_)
  rw [if_pos (by decide)]
  refine wpAny_bind (back_applied hs ?_)
  have hno : ¬ (((items.size : Int) - 1 == 0 && (-1 : Int) == 1 && items.size == items.size) = true) := by
    intro q
    rw [Bool.and_eq_true, Bool.and_eq_true] at q
    have q1 : (-1 : Int) = 1 := eq_of_beq q.1.2
    omega
  show wpAny _ _ (if ((items.size : Int) - 1 == 0 && (-1 : Int) == 1 && items.size == items.size) = true then _ else _) _ _ s
  rw [if_neg hno, back_pick]
  first
    | exact wpAny_bind (m := Builtin.Tuple.tupleExact _) (wpAny_newObj_type (wpAny_pure ⟨_, rfl, wpAny_pure h⟩) htake)
    | exact wpAny_bind (m := Builtin.Tuple.tupleExact _) (wpAny_newObj_type (wpAny_bind (wpAny_pure (wpAny_pure ⟨_, rfl, wpAny_pure h⟩))) htake)
    | exact wpAny_bind (wpAny_bind (m := Builtin.Tuple.tupleExact _) (wpAny_newObj_type (wpAny_pure (wpAny_pure ⟨_, rfl, wpAny_pure h⟩)) htake))
    | exact wpAny_bind (wpAny_bind (m := Builtin.Tuple.tupleExact _) (wpAny_newObj_type (wpAny_pure ⟨_, rfl, wpAny_pure h⟩) htake))
end
abbrev rU (Z : Wd) (f : D → Option D) : VV → Hp → VK → Prop := fun x H Q => ∃ F d w, Sub F H ∧ Sh Z F H x d ∧ f d = some w ∧ After Z F H (ownW w) Q
section
variable {X : Cx} {cls : Nm}
/-- e[::-1] -/
theorem pe_back {e : Expr} {te : TE} {k : Nat} {p1 p2 p3 pos : Pos} (he : PE X e te) : PE X (.Subscript e (.Slice none none (some (.UnaryOp .USub (.Constant (.int 1) k p1) p2)) p3) pos) (tUn (rU (zd X cls) revD) te) := by
  refine ⟨fun pins s σ H Q I h => ?_⟩
  refine Subscript_ (thn (he.run pins s σ H _ I h) fun v s1 ⟨x, H1, I1, r1, q1⟩ => ?_)
  obtain ⟨F, d, w, fh, hd, hf, af⟩ := q1
  have hst : PO X (some (.UnaryOp .USub (.Constant (.int 1) k p1) p2)) (tPart (tUn (L2.rU fun i => .int (-i)) (tC (.int 1)))) := po_some (pe_un un_neg pe_int)
  refine wpAny_Slice (thn (po_none.run pins s1 σ H1 (fun o H2 => o = none ∧ H2 = H1) I1 ⟨rfl, rfl⟩) fun vl s2 ⟨l, H2, I2, pl, el, e2⟩ => ?_)
  subst el e2
  refine thn (po_none.run pins s2 σ H2 (fun o H3 => o = none ∧ H3 = H2) I2 ⟨rfl, rfl⟩) fun vu s3 ⟨u, H3, I3, pu, eu, e3⟩ => ?_
  subst eu e3
  refine thn (hst.run pins s3 σ H3 (fun o H4 => o = some (-1) ∧ H4 = H3) I3 ⟨1, rfl, -1, rfl, rfl, rfl⟩) fun vs s4 ⟨o, H4, I4, ps, eo, e4⟩ => ?_
  subst eo e4
  have I5 : Inv X pins σ H4 { s4 with heap := s4.heap.push { cls := .type "slice", data := .fields #[vl, vu, vs] } } := I4.kept (t' := s4.toks) fun b ob q => Heap.get?_push_of_some _ q
  cases pl
  cases pu
  rcases ps with _ | ⟨_, tk⟩
  cases d with
  | lst ds =>
    cases hf
    obtain ⟨a, xs, rfl, hx, l⟩ := hd.lst fh
    cases r1
    obtain ⟨its, r, ht, hz⟩ := I5.list (SqL.of hx)
    have hlen := r.length
    refine tail_any (ops := [.ref a, .ref s4.heap.objs.size]) ht.isList.typeIs (PySem.slot_list_getitem.lookup) ?_ (by with_unfolding_all rfl)
    refine wpAny_getItem_list_slice ht.isList (Heap.IsSliceOf.new _ _ _ _) .none .none (.int (-1) _) (by decide) ?_ (by rw [List.size_toArray]; omega)
    rw [PySem.W.krv_pick]
    refine ⟨.ref _, _, I5.laid (t' := s4.toks) (o := .lst xs.reverse) (fun b ob q => Heap.get?_push_of_some _ q) (Nat.le_refl _) ?_, rfl, After.own_lst fh af l.rev (I5.hok.fresh (Nat.le_refl _))⟩
    exact ⟨by rw [List.length_reverse]; exact hz, _, 0, r.reverse, Heap.get?_push_size _ rfl⟩
  | tup ds =>
    cases hf
    obtain ⟨a, xs, rfl, hx, l⟩ := hd.tup fh
    cases r1
    obtain ⟨its, r, ht, hz⟩ := I5.tuple hx
    have hlen := r.length
    refine tail_any (ops := [.ref a, .ref s4.heap.objs.size]) ht.typeIs (slot_tuple_getitem.lookup) ?_ (by with_unfolding_all rfl)
    refine back_tuple ht (Heap.IsSliceOf.new _ _ _ _) ?_ (by rw [List.size_toArray]; omega)
    refine ⟨.ref _, _, I5.laid (t' := s4.toks) (o := .tup xs.reverse) (fun b ob q => Heap.get?_push_of_some _ q) (Nat.le_refl _) ?_, rfl, After.new_tup fh af l.rev (I5.hok.fresh (Nat.le_refl _))⟩
    exact ⟨by rw [List.length_reverse]; exact hz, _, r.reverse, _, Heap.get?_push_size _ rfl, rfl, 0, rfl⟩
  | _ => cases hf
/-! ### isinstance with a builtin type -/
def tyN : Ty → String
  | .int => "int"
  | .bool => "bool"
  | .str => "str"
  | .tuple => "tuple"
  | .list => "list"
  | .dict => "dict"
def dN : D → Option String
  | .non => some "NoneType"
  | .bl _ => some "bool"
  | .int _ => some "int"
  | .str _ => some "str"
  | .tup _ => some "tuple"
  | .lst _ => some "list"
  | .dic .. => some "dict"
  | .ins .. => none
  | .scr _ => none
  | .exc .. => none
theorem Sh.tyx {Z : Wd} {F H : Hp} {x : VV} {d : D} {n : String} (h : Sh Z F H x d) (fh : Sub F H) (e : dN d = some n) : TyX Z.K H x (.type n) := by
  cases d with
  | non => cases h.non; cases e; exact .base .non
  | bl b => cases h.bl; cases e; exact .base (.bl b)
  | int b => cases h.int; cases e; exact .base (.int b)
  | str b => cases h.str; cases e; exact .base (.str b)
  | tup ds =>
    obtain ⟨a, vs, rfl, q, l⟩ := h.tup fh
    cases e
    rcases q with (q | ⟨o, q⟩) | ⟨o, its, n, q, c, _⟩
    · exact .base (.tup q)
    · exact .fTuple q
    · exact .kTuple q c
  | lst ds =>
    obtain ⟨a, vs, rfl, q, l⟩ := h.lst fh
    cases e
    exact .base (.lst q)
  | dic ks ds =>
    rcases h.dic fh with ⟨a, qs, vs, rfl, ha, hl, nd, rfl, l⟩ | ⟨a, es, n, zs, vs, rfl, hkd, nz, hl, nd, hr, rfl, l⟩
    · cases e; exact .base (.dK ha)
    · cases e; exact .kDict hkd.at_ rfl
  | _ => cases e
theorem kit_d {d : D} {t : Ty} {b : Bool} (h : isiD t d = some b) : ∃ n, dN d = some n ∧ kitB n (tyN t) = some b := by
  cases t <;> cases d <;> first | (cases h; exact ⟨_, rfl, by decide +kernel⟩) | cases h
theorem cr_isi (t : Ty) : CallR X (.builtin "isinstance") (fun xs H Q => ∃ F x d b, xs = [x, .ty (tyN t)] ∧ Sub F H ∧ Sh (zd X cls) F H x d ∧ isiD t d = some b ∧ Q (.bl b) H) := by
  refine CallR.as call_isi fun xs H Q => ?_
  rintro ⟨F, x, d, b, rfl, fh, hd, hb, q⟩
  obtain ⟨n, e, k⟩ := kit_d hb
  exact ⟨x, _, _, _, b, rfl, .ty _, hd.tyx fh e, kit_ty k, q⟩
end
end Py
set_option Elab.async false
set_option linter.all false
set_option maxRecDepth 100000
set_option maxHeartbeats 4000000
/-! PyF: what a def promises over data; how it is called. -/
namespace Py
open PySem PySem.Spec L2 PySem.SeqAt PyProof.Rows
/-- the values of a call stand for the arguments; the in-out ones at ios -/
inductive ArgR (Z : Wd) (F H : Hp) : List VV → List Arg → List (Addr × List Addr) → Prop where
  | nil : ArgR Z F H [] [] []
  | val {v : VV} {d : D} {vs : List VV} {as : List Arg} {ios : List (Addr × List Addr)} : Rp Z F v d → ArgR Z F H vs as ios → ArgR Z F H (v :: vs) (.v d :: as) ios
  | io {p : Addr} {fp : List Addr} {o : Ob} {vs : List VV} {as : List Arg} {ios : List (Addr × List Addr)} : Own Z F H p fp o → (∀ b ∈ fp, ∀ q ∈ ios, b ∉ q.2) → ArgR Z F H vs as ios → ArgR Z F H (.ref p :: vs) (.o o :: as) ((p, fp) :: ios)
inductive BackR (Z : Wd) (F H : Hp) : List (Addr × List Addr) → List Ob → Prop where
  | nil : BackR Z F H [] []
  | cons {p : Addr} {fp : List Addr} {o : Ob} {ios : List (Addr × List Addr)} {os : List Ob} : Own Z F H p fp o → BackR Z F H ios os → BackR Z F H ((p, fp) :: ios) (o :: os)
/-- what stands behind a call -/
structure FinR (Z : Wd) (F H F' H' : Hp) (ios : List (Addr × List Addr)) (os : List Ob) : Prop where
  ff : Sub F F'
  fh : Sub F' H'
  hh : ∀ b o, (∀ q ∈ ios, b ∉ q.2) → H b = some o → NT o → H' b = some o
  fn : ∀ b, F' b ≠ none → F b = none → H b = none
  bk : BackR Z F' H' ios os
  tb : Tbs Z.cls.T F' H'
  ht : ∀ P ps, H P = some (.tbl ps) → ∃ ps', H' P = some (.tbl ps')
/-- how a call ends -/
def GotR (Z : Wd) (F H : Hp) (ios : List (Addr × List Addr)) (os : List Ob) (Q : VK) (E : XK) : Got → Prop
  | .ok w => ∀ v F' H' fp, FinR Z F H F' H' ios os → WR Z F' H' v fp w → (∀ b ∈ fp, H b = none) → Q v H'
  | .ex x => ∀ cls dx F' H', FinR Z F H F' H' ios os → ExR Z F' x cls dx → E cls dx H'
/-- a def's promise -/
def spF (Z : Wd) (res : List Arg → Option Res) : List VV → Hp → VK → XK → Prop := fun vs H Q E => ∃ F args ios g os, Sub F H ∧ Tbs Z.cls.T F H ∧ ArgR Z F H vs args ios ∧ res args = some ⟨g, os⟩ ∧ GotR Z F H ios os Q E g
structure RoomG (k : Nat) (A : Around) : Prop where
  rm : Room k A
  gd : A.guards = some []
theorem RoomG.mono {j k : Nat} {A : Around} (r : RoomG k A) (h : j ≤ k) : RoomG j A := ⟨r.rm.mono h, r.gd⟩
theorem RoomG.deeper {k : Nat} {A : Around} (r : RoomG (k + 1) A) (env : PySem.Env) : RoomG k (A.deeper env) := ⟨r.rm.deeper env, r.gd⟩
abbrev CX0 : CXT := fun _ _ _ _ _ _ => False
abbrev E0 : XK := fun _ _ _ => False
def FnG (P : Program) (w : World) (K : PySem.W.Frag) (mg : Str → Option Value) (base : Heap) (k : Nat) (f : Addr) (fd : FuncData) (ps : List Str) (sp : List VV → Hp → VK → XK → Prop) : Prop :=
  ∀ (A : Around) (outer : List PySem.Env) (s : Shared) (H : Hp) (args : Args) (us : List Value) (vs : List VV) (Q : VK) (E : XK), RoomG k A → Env0 P w K mg base A outer s H → us.length = ps.length → BindsTo s fd args (ps.zip us) → Vals vs us → sp vs H Q E →
    codeAny (model P w) A (.call (.ref f) args) (CR (L2.CX P w) outer P w H s Q E) s
theorem FnG.mono {P : Program} {w : World} {K : PySem.W.Frag} {mg : Str → Option Value} {base : Heap} {j k : Nat} {f : Addr} {fd : FuncData} {ps : List Str} {sp : List VV → Hp → VK → XK → Prop} (F : FnG P w K mg base j f fd ps sp) (h : j ≤ k) : FnG P w K mg base k f fd ps sp :=
  fun A outer s H args us vs Q E hr => F A outer s H args us vs Q E (hr.mono h)
section
variable {X : Cx} {k : Nat} {f C : Addr} {fd : FuncData} {ps ks : List Str} {sp : List VV → Hp → VK → XK → Prop} {pins : List (Addr × Obj)} {σ : Sg} {H : Hp} {s : Shared}
/-- it is called -/
theorem runG {us ws : List Value} {vs : List VV} {Q : VK} {W : WX} (tk : Takes X W) (F : FnG X.prog X.w X.K X.mg X.base k f fd ps sp) (hr : RoomG k X.A) (I : Inv X pins σ H s)
    (hb : BindsTo s fd ⟨us, ks.zip ws⟩ (ps.zip (us ++ ws))) (hl : (us ++ ws).length = ps.length) (r : Vals vs (us ++ ws)) (h : sp vs H Q (fun cls dx H' => W cls dx σ H')) :
    wpAny (model X.prog X.w) X.A (call (.ref f) us (ks.zip ws)) (EP X pins σ Q) X.xe s := by
  refine wpAny_call (codeAny_mono (F X.A X.stack s H _ _ vs Q _ hr I.env0 hl hb r h) fun rr s' hq => ?_)
  cases rr with
  | error e => exact passAt tk σ pins H s e s' I hq
  | ok fl =>
    cases fl with
    | ret u => exact I.after hq
    | next => exact False.elim hq
    | brk => exact False.elim hq
    | cont => exact False.elim hq
/-- an instance is made -/
theorem makeG {us : List Value} {vs : List VV} {Q : VK} (M : Mk X.K C f) (F : FnG X.prog X.w X.K X.mg X.base k f fd ps sp) (hr : RoomG (k + 1) X.A) (I : Inv X pins σ H s)
    (hb : ∀ (s : Shared) (u : Value), X.K.In s.heap → BindsTo s fd ⟨u :: us, []⟩ (ps.zip (u :: us))) (hl : us.length + 1 = ps.length) (r : Vals vs us)
    (h : ∀ x dx, H x = none → H dx = none → dx ≠ x → sp (.ref x :: vs) (upd (upd H dx (.own x)) x (.ins C dx [])) (fun v H2 => v = .non ∧ Q (.ref x) H2) (fun _ _ _ => False)) :
    wpAny (model X.prog X.w) X.A (call (.ref C) us) (EP X pins σ Q) X.xe s := by
  have n1 : H (s.heap.objs.size + 1) = none := I.hok.fresh (Nat.le_succ _)
  have n0 : H s.heap.objs.size = none := I.hok.fresh (Nat.le_refl _)
  have hq := h _ _ n1 n0 (Nat.ne_of_lt (Nat.lt_succ_self _))
  have J := Inv.made (C := C) I
  have rr : Vals (.ref (s.heap.objs.size + 1) :: vs) (Value.ref (s.heap.objs.size + 1) :: us) := .cons rfl r
  have room : RoomG k (X.A.under (.builtin "type.__call__" ⟨.ref C :: us, []⟩)) := ⟨hr.rm.make C us [], by
    have e : pushGuards (Code.builtin "type.__call__" ⟨.ref C :: us, []⟩).guards X.A.guards = some [] := by
      have e1 : (Code.builtin "type.__call__" ⟨.ref C :: us, []⟩).guards = [] := by
        have e2 : guardIds.contains "type.__call__" = false := by decide +kernel
        show (if guardIds.contains "type.__call__" = true then _ else _) = _
        rw [e2]
        rfl
      rw [e1]
      exact hr.gd
    exact e⟩
  refine wpAny_call (make_map (f := f) I.kIn M.makes M.init (beq_iff_eq.mp M.fn) (codeAny_mono (F _ X.stack _ _ _ _ _ _ _ room (J.env0.make C us []) (by simpa using hl) (hb _ _ J.kIn) rr hq) fun r' s' hq' => ?_))
  cases r' with
  | error e =>
    obtain ⟨_, _, _, _, _, _, _, _, _, _, _, _, z⟩ := hq'
    exact z.elim
  | ok fl =>
    cases fl with
    | ret u =>
      obtain ⟨v, H', J3, rv, ev, q3⟩ := J.after hq'
      subst ev
      exact ⟨rv, .ref _, H', J3, rfl, q3⟩
    | next => exact False.elim hq'
    | brk => exact False.elim hq'
    | cont => exact False.elim hq'
end
/-- a def keeps its promise: its body -/
theorem FnG.of {P : Program} {w : World} {K : PySem.W.Frag} {mg : Str → Option Value} {base : Heap} {k : Nat} {f : Addr} {name qual : Str} {params : Arguments} {body : List Stmt} {scope : Scope} {dV kV doc pm cdv ct oc : Value} {an od : Option Addr}
    {osl : Array (Option Value)} {N ps : List Str} {sp : List VV → Hp → VK → XK → Prop} (lk : K.lookup f = some ⟨oc, od, .func (PySem.W.fnOf name qual params body scope dV kV doc pm an cdv ct), osl⟩)
    (hcd : PySem.W.codeIn K cdv qual = true) (S : FnScope N ps scope)
    (hbody : ∀ (A : Around) (outer : List PySem.Env) (s : Shared) (H : Hp) (vs : List VV) (Q : VK) (E : XK), RoomG k (A.deeper (envOfC qual scope s.heap.objs.size f cdv)) → vs.length = ps.length → sp vs H Q E →
      ∃ t, PSs (cxOf (L2.CX P w) P w K mg base N qual scope f cdv A outer s H E) body t ∧ t { nx := fun _ H' => Q .non H', rt := Q } (start N vs) H) :
    FnG P w K mg base (k + 1) f (PySem.W.fnOf name qual params body scope dV kV doc pm an cdv ct) ps sp := by
  intro A outer s H args us vs Q E hr e0 hlu hb r hsp
  have hl : vs.length = ps.length := by rw [r.length]; exact hlu
  have KX : K.In s.heap := e0.mod.kin.keeps fun b o e => (e0.bs b o e).1
  have lim : s.heap.NoLimit := e0.mod.nolimit.keeps fun b o e => (e0.bs b o e).1
  have kinds : ∀ y ∈ ps.zip us, scope.names.lookup y.1 = some .local ∨ (scope.names.lookup y.1 = some .cell ∧ ((cellsFrom (s.heap.objs.size + 1) scope.names []).lookup y.1).isSome = true) := by
    rintro ⟨n, v⟩ hy
    rcases S.par n (List.of_mem_zip hy).1 with q | q
    · exact .inl q
    · exact .inr ⟨q, PySem.W.cellsFrom_some _ _ _ (.inl q)⟩
  refine codeAny_call_function hr.rm.depth (KX _ _ lk) rfl S.co S.gen rfl (PySem.W.codeRec_of KX hcd) (hb _ _ _ _ ?_)
  refine wpAny_newFunctionEnv_cells S.kind kinds fun env he s1 x => ?_
  subst he
  refine ⟨lim.keeps x.toInCall.keep, codeAny_func ?_⟩
  obtain ⟨t, ht, hq⟩ := hbody A outer s H vs Q E (hr.deeper _) hl hsp
  have I := inv_start (CX := L2.CX P w) (E := E) (qual := qual) (f := f) (cd := cdv) S hr.rm.hd e0 hl r x
  refine wpAny_mono (ht.run [] s1 (start N vs) H _ I hq) (fun fl s' hs => ?_) fun e s' hs => hs
  cases fl with
  | ret u =>
    obtain ⟨v, σ', H', J, rv, q⟩ := hs
    exact ⟨v, H', J.os, J.bare, J.base, J.hok, rv, q⟩
  | next =>
    obtain ⟨σ', H', J, q⟩ := hs
    exact ⟨.non, H', J.os, J.bare, J.base, J.hok, rfl, q⟩
  | brk => exact (hs.elim fun _ h => h.elim fun _ h => h.2).elim
  | cont => exact (hs.elim fun _ h => h.elim fun _ h => h.2).elim
end Py
set_option Elab.async false
set_option linter.all false
set_option maxRecDepth 100000
/-! PyT: from the text to the small language. What it does not know is stuck. -/
namespace Py
open PySem PySem.Spec L2
abbrev Ex := PySem.Expr
structure Tc where
  N : List Str
  sc : Scope
  fns : List (Str × (Nat × List Str × List Bool))
  cls : List (Str × (Nat × Nat))
  gls : List (Str × Nat)
  mts : List Str
  kws : List (Str × Nat)
  /-- builtins that the module leaves alone -/
  blt : List Str
  /-- the names of draws -/
  drs : List Str
  /-- own classes of exceptions -/
  xcs : List (Str × Nat) := []
  /-- the law's own try -/
  ler : List Str := []
  /-- lambdas may be made here -/
  lam : Bool := false
  /-- calls by name in another order: the def, how many by position, the names, where the parameters stand -/
  kwp : List (Str × Nat × List Str × List Nat) := []
def Tc.kwpAt (tc : Tc) (x : Str) (np : Nat) (ks : List Str) : Option (List Nat) := (tc.kwp.find? fun q => q.1 == x && (q.2.1 == np && q.2.2.1 == ks)).map (·.2.2.2)
def Tc.loc (tc : Tc) (x : Str) : Bool := match tc.sc.names.lookup x with
  | some .local => true
  | some .cell => true
  | some .free => true
  | _ => false
/-- a name that may be stored -/
def Tc.own (tc : Tc) (x : Str) : Bool := match tc.sc.names.lookup x with
  | some .local => true
  | some .cell => true
  | _ => false
def Tc.lcl (tc : Tc) (x : Str) : Bool := match tc.sc.names.lookup x with
  | some .local => true
  | _ => false
def Tc.glo (tc : Tc) (x : Str) : Bool := match tc.sc.names.lookup x with
  | some .globalImplicit => true
  | _ => false
def okN (x : Str) : Bool := !(x == ("__debug__" : Str)) && !(x == ("__classdict__" : Str)) && !(x == ("__name__" : Str))
/-- the module says nothing of the name -/
def Tc.free (tc : Tc) (x : Str) : Bool := okN x && tc.glo x && tc.blt.contains x
def slotOf? (N : List Str) (x : Str) : Option Nat := N.findIdx? (· == x)
/-- a name's slot -/
def slotX (tc : Tc) (x : Str) : Option Nat := if okN x && tc.loc x then slotOf? tc.N x else none
/-- draw['..'] -/
def drK (tc : Tc) (e i : Ex) : Option (Nat × Str) := match e with
  | .Name x _ => match i with
    | .Constant (.str z) _ _ => if tc.drs.contains x then (slotX tc x).map fun s => (s, z) else none
    | _ => none
  | _ => none
/-- draw['wide'] -/
def drWd (tc : Tc) (e : Ex) : Option Nat := match e with
  | .Subscript a b _ => (match drK tc a b with
    | some (i, z) => if z = "wide" then some i else none
    | none => none)
  | _ => none
def isNil : Ex → Bool
  | .List [] _ => true
  | _ => false
def isZero : List Ex → Bool
  | [.Constant (.int i) _ _] => i == 0
  | _ => false
def isStar : Ex → Bool
  | .Starred .. => true
  | _ => false
def isSet : Ex → Bool
  | .Set .. => true
  | _ => false
def isSlice : Ex → Bool
  | .Slice .. => true
  | _ => false
/-- C(): the one call whose attribute is special -/
def isCall : Ex → Bool
  | .Call (.Name ..) [] [] _ => true
  | _ => false
def biOf (x : Str) : Option BI :=
  if x = "len" then some .len else if x = "all" then some .all else if x = "any" then some .any else if x = "list" then some .list else if x = "tuple" then some .tuple
  else if x = "str" then some .str else if x = "int" then some .int else if x = "repr" then some .repr else if x = "abs" then some .abs else if x = "min" then some .min
  else if x = "max" then some .max else if x = "sum" then some .sum else none
def tyOf (x : Str) : Option Ty :=
  if x = "int" then some .int else if x = "bool" then some .bool else if x = "str" then some .str else if x = "tuple" then some .tuple else if x = "list" then some .list else if x = "dict" then some .dict else none
def copOf : CmpOp → Option COp
  | .Eq => some .eq
  | .NotEq => some .ne
  | .Lt => some .lt
  | .LtE => some .le
  | .Gt => some .gt
  | .GtE => some .ge
  | .Is => some .is
  | .IsNot => some .isnot
  | .In => some .isin
  | .NotIn => some .notin
def bopOf : Operator → Option BOp
  | .Add => some .add
  | .Sub => some .sub
  | .Mult => some .mul
  | .FloorDiv => some .fdiv
  | .Mod => some .mod
  | .Pow => some .pow
  | _ => none
def keysOf : List (Option Ex) → Option (List Str)
  | [] => some []
  | some (.Constant (.str x) _ _) :: r => (keysOf r).map (x :: ·)
  | _ => none
/-- a store's target: names and tuples of them -/
def trP (tc : Tc) : Nat → Ex → Option Pat
  | 0, _ => none
  | n + 1, e => match e with
    | .Name x _ => if tc.own x then (slotOf? tc.N x).map .name else none
    | .Tuple es _ _ => (es.mapM (trP tc n)).map .tup
    | _ => none
/-- the block's own names, with their slots -/
def ownOf (N : List Str) (sc : Scope) : List (Str × Nat) := sc.names.filterMap fun (x, k) => match k with
  | .local => (slotOf? N x).map fun i => (x, i)
  | .cell => (slotOf? N x).map fun i => (x, i)
  | _ => none
def Tc.blk (tc : Tc) (sc : Scope) : Tc := { tc with sc := sc, lam := false }
/-- no parameter -/
def noArgs : Arguments → Bool
  | ⟨[], [], none, [], [], none, []⟩ => true
  | _ => false
def trO (f : Ex → E) : Option Ex → Option E
  | none => none
  | some e => some (f e)
/-- the arguments: the in-out ones are names -/
def trAs (f : Ex → E) : List Bool → List Ex → Option (List Ar)
  | [], [] => some []
  | false :: bs, e :: es => (trAs f bs es).map fun r => .v (f e) :: r
  | true :: bs, e :: es => match f e with
    | .var i => (trAs f bs es).map fun r => .io i :: r
    | _ => none
  | _, _ => none
def kwNames : List Keyword → Option (List Str)
  | [] => some []
  | ⟨some x, _, _⟩ :: r => (kwNames r).map (x :: ·)
  | _ => none
def kwVals : List Keyword → List Ex
  | [] => []
  | ⟨_, e, _⟩ :: r => e :: kwVals r
/-- the arguments ahead of a last {} -/
def newLast : List Ex → Option (List Ex)
  | [] => none
  | e :: es => match e, es with
    | .Dict [] [] _, [] => some []
    | e, es => (newLast es).map (e :: ·)
/-- an item of a display -/
def trX (f : Ex → E) : Ex → E
  | .Starred e _ => f e
  | e => f e
/-- set(a), alone -/
def setArg (tc : Tc) (x : Str) : List Ex → Option Ex
  | [.Call (.Name y _) [a] [] _] => if x == ("len" : Str) && (y == ("set" : Str) && (tc.free y && !isStar a)) then some a else none
  | _ => none
def orStk : Option E → E
  | some e => e
  | none => .stk
mutual
def trE (tc : Tc) : Nat → Ex → E
  | 0, _ => .stk
  | n + 1, e => match e with
    | .Constant (.none) _ _ => .lit .non
    | .Constant (.bool b) _ _ => .lit (.bl b)
    | .Constant (.int i) _ _ => .lit (.int i)
    | .Constant (.str x) _ _ => .lit (.str x)
    | .Name x _ => if okN x then (if tc.loc x then (match slotOf? tc.N x with
        | some i => .var i
        | none => .stk) else if tc.glo x then (match tc.gls.lookup x with
        | some g => .glob g
        | none => .stk) else .stk) else .stk
    | .BinOp a op b _ => match bopOf op with
      | some o => .bin o (trE tc n a) (trE tc n b)
      | none => .stk
    | .UnaryOp .Not a _ => .not (trE tc n a)
    | .UnaryOp .USub a _ => .neg (trE tc n a)
    | .BoolOp op [a, b] _ => (match op with | .And => E.and | .Or => E.or) (trE tc n a) (trE tc n b)
    | .BoolOp op (a :: b :: c :: r) p => (match op with | .And => E.and | .Or => E.or) (trE tc n a) (trE tc n (.BoolOp op (b :: c :: r) p))
    | .IfExp c a b _ => .ifE (trE tc n c) (trE tc n a) (trE tc n b)
    | .Compare a [op] [b] _ => match copOf op with
      | some o => if behindInMarks op b then .stk else match drWd tc a with
        | some i => if isNil b && decide (o = .ne) then .drW i else .stk
        | none => .cmp o (trE tc n a) (trE tc n b)
      | none => .stk
    | .Compare a [op, op'] [b, c] _ => match copOf op, copOf op' with
      | some o, some o' => if lastMarks [op, op'] [b, c] then .stk else .chain o o' (trE tc n a) (trE tc n b) (trE tc n c)
      | _, _ => .stk
    | .List es _ => if es.any isStar then .lstS (es.map isStar) (es.map (trX (trE tc n))) else .lst (es.map (trE tc n))
    | .Tuple es _ _ => if es.any isStar then .tupS (es.map isStar) (es.map (trX (trE tc n))) else .tup (es.map (trE tc n))
    | .Dict ks vs _ => match keysOf ks with
      | some zs => if vs.any isStar || !(decide (zs.Nodup ∧ zs.length ≤ 15)) || !(ks.length == vs.length) then .stk else .dic zs (vs.map (trE tc n))
      | none => .stk
    | .Subscript e (.Slice none none (some (.UnaryOp .USub (.Constant (.int i) _ _) _)) _) _ => if i == 1 then .rev (trE tc n e) else .stk
    | .Subscript e (.Slice lo hi none _) _ => .slice (trE tc n e) (trO (trE tc n) lo) (trO (trE tc n) hi)
    | .Subscript e i _ => if isSlice i then .stk else match drK tc e i with
      | some (s, z) => .drI s z
      | none => .idx (trE tc n e) (trE tc n i)
    | .Attribute e f _ => if isCall e then .stk else .attr (trE tc n e) f
    | .Call (.Name x _) es kws _ => if okN x && tc.glo x && ! es.any isStar then (match tc.fns.lookup x with
        | some (f, ps, ios) => (match kwNames kws with
          | some ks => if ks == ps.drop es.length && decide (es.length ≤ ps.length) && (kws.isEmpty || tc.kws.any (· == (x, es.length))) then (match trAs (trE tc n) ios (es ++ kwVals kws) with
            | some as => .call f as
            | none => (match newLast es with
              | some es0 => if kws.isEmpty && es.length == ps.length then .callN f (es0.map (trE tc n)) else .stk
              | none => .stk)) else (match tc.kwpAt x es.length ks with
              | some pm => (match trAs (trE tc n) ((es ++ kwVals kws).map fun _ => false) (es ++ kwVals kws) with
                | some as => .callP f pm as
                | none => .stk)
              | none => .stk)
          | none => .stk)
        | none => if tc.ler.contains x then (match es, kws with
          | [.Lambda ps b sc _], [] => if tc.lam && noArgs ps && LamX.lamSB tc.sc sc then .lerr (trE (tc.blk sc) n b) else .stk
          | _, _ => .stk) else match tc.cls.lookup x with
          | some (c, m) => if kws.isEmpty && es.length == m then .make c (es.map (trE tc n)) else .stk
          | none => match tc.xcs.lookup x with
          | some c => if kws.isEmpty then .mkx c (es.map (trE tc n)) else .stk
          | none => if tc.free x && kws.isEmpty then (match biOf x with
            | some b => if es.isEmpty then .stk else match setArg tc x es with
              | some a => .lns (trE tc n a)
              | none => .bi b (es.map (trE tc n))
            | none => if x == ("isinstance" : Str) then (match es with
              | [e, .Name y _] => if tc.free y then (match tyOf y with
                | some t => .isi (trE tc n e) t
                | none => if y == ("ValueError" : Str) then .isv (trE tc n e) else .stk) else (match tc.xcs.lookup y with
                | some c => if okN y && tc.glo y then .isc (trE tc n e) c else .stk
                | none => .stk)
              | _ => .stk) else .stk) else .stk) else .stk
    | .Call (.Attribute o m ap) es [] cp => if isCall o || es.any isStar then .stk else match drWd tc o with
      | some i => if m == ("pop" : Str) && isZero es && ap.endLine == cp.line then .drP i else .stk
      | none => match tc.mts.contains m with
        | true => if ap.endLine == cp.line && decide (es.length < 20) then .meth (trE tc n o) m (es.map (trE tc n)) else .stk
        | false => if m == ("get" : Str) && ap.endLine == cp.line then (match es with
          | [a, b] => .bm .get (trE tc n o) [trE tc n a, trE tc n b]
          | _ => .stk) else if m == ("setdefault" : Str) && ap.endLine == cp.line then (match o, es with
          | .Name x _, [a, b] => (match slotX tc x with
            | some i => .sdf i (trE tc n a) (trE tc n b)
            | none => .stk)
          | _, _ => .stk) else .stk
    | .ListComp elt [⟨tg, iter, ifs, 0⟩] sc _ => match trP (tc.blk sc) n tg with
      | some p => if blkC tc.N tc.sc sc (ownOf tc.N sc) && decide (ifs.length ≤ 1) && (patIx p).all (((ownOf tc.N sc).map (·.2)).contains ·) && !isSet iter then .lc p (trI tc n tg iter) (ifs.map (trE (tc.blk sc) n)) (trE (tc.blk sc) n elt) ((ownOf tc.N sc).map (·.2)) else .stk
      | none => .stk
    | .DictComp kx vx [⟨tg, iter, [], 0⟩] sc _ => match trP (tc.blk sc) n tg with
      | some p => if blkC tc.N tc.sc sc (ownOf tc.N sc) && !isSet iter then .dc p (trI tc n tg iter) (trE (tc.blk sc) n kx) (trE (tc.blk sc) n vx) ((ownOf tc.N sc).map (·.2)) else .stk
      | none => .stk
    | _ => .stk
/-- what a loop walks -/
def trI (tc : Tc) : Nat → Ex → Ex → It
  | 0, _, _ => .of .stk
  | n + 1, tg, e => match e with
    | .Call (.Name x _) es [] _ => if tc.free x && ! es.any isStar && x == ("range" : Str) then (match es with
        | [_] => .rng (es.map (trE tc n))
        | [_, _] => .rng (es.map (trE tc n))
        | _ => .of .stk)
      else if tc.free x && ! es.any isStar && x == ("enumerate" : Str) then (match es, tg with
        | [e], .Tuple .. => .enm (trE tc n e)
        | _, _ => .of .stk)
      else .of (trE tc n e)
    | e => .of (trE tc n e)
end
end Py
set_option Elab.async false
set_option linter.all false
set_option maxRecDepth 100000
set_option maxHeartbeats 4000000
/-! PyM: expressions, one by one. -/
namespace Py
open PySem PySem.Spec L2 PySem.SeqAt PyProof.Rows
section
variable {X : Cx} {cls : Nm} {B : Base} {Wx : WX} {C : Cfg}
/-- what an expression's text runs, over data -/
abbrev tE (X : Cx) (cls : Nm) (Wx : WX) (m : M W) : TE := tM (zd X cls) Wx (pW (zd X cls)) m
abbrev tF (X : Cx) (cls : Nm) (Wx : WX) (m : M D) : TE := tM (zd X cls) Wx (pD (zd X cls)) m
/-- an operand -/
def tP (X : Cx) (cls : Nm) (Wx : WX) (C : Cfg) (e : E) : TE := fun σ H Q => ∃ B F ρ O, Sx (zd X cls) B F H σ ρ O ∧ Run (zd X cls) B Wx (pO (zd X cls) σ e) (opd e (den C e)) σ F H ρ O Q
structure Good (X : Cx) (cls : Nm) (Wx : WX) (C : Cfg) (e : Ex) (e' : E) : Prop where
  pe : PE X e (tE X cls Wx (den C e'))
  pt : PT X e (tB (tE X cls Wx (den C e')))
  vr : ∀ i, isVar e' = some i → PE X e (tVar i)
theorem tM_imp {α β : Type} {Z : Wd} {P : Rl α β} {m : M α} {σ : Sg} {H : Hp} {Q Q' : β → Hp → Prop} (h : tM Z Wx P m σ H Q) (k : ∀ b H, Q b H → Q' b H) : tM Z Wx P m σ H Q' := by
  obtain ⟨B, F, ρ, O, s, r, ρ', hm, en⟩ := h
  refine ⟨B, F, ρ, O, s, r, ρ', hm, ?_⟩
  cases r with
  | ex x => exact en
  | ok a => exact fun b F' H' O' st pp => k _ _ (en b F' H' O' st pp)
theorem tM_stuck {α β : Type} {Z : Wd} {P : Rl α β} {σ : Sg} {H : Hp} {Q : β → Hp → Prop} (h : tM Z Wx P (M.stuck : M α) σ H Q) : False := by
  obtain ⟨B, F, ρ, O, s, h⟩ := h
  exact h.stuck
theorem good_stk (e : Ex) : Good X cls Wx C e .stk :=
  ⟨⟨fun pins s σ H Q I h => (tM_stuck h).elim⟩, ⟨fun pins s σ H Q I h => (tM_stuck h).elim⟩, fun i h => by cases h⟩
/-- a frozen value comes -/
theorem Good.fz {e : Ex} {e' : E} (g : Good X cls Wx C e e') : PE X e (tF X cls Wx (fzM (den C e'))) := g.pe.mono fun σ H Q ⟨B, F, ρ, O, s, h⟩ => ⟨B, F, ρ, O, s, h.fz s⟩
theorem Good.fzt {e : Ex} {e' : E} (g : Good X cls Wx C e e') : PT X e (tB (tF X cls Wx (fzM (den C e')))) := g.pt.mono fun σ H Q ⟨B, F, ρ, O, s, h⟩ => ⟨B, F, ρ, O, s, h.fz s⟩
theorem Good.op {e : Ex} {e' : E} (g : Good X cls Wx C e e') : PE X e (tP X cls Wx C e') := by
  cases q : isVar e' with
  | none =>
    refine g.fz.mono fun σ H Q ⟨B, F, ρ, O, s, h⟩ => ⟨B, F, ρ, O, s, ?_⟩
    obtain ⟨r, ρ', hm, en⟩ := h
    have e1 : opd e' (den C e') = fzM (den C e') := by unfold opd; rw [q]
    have e2 : pO (zd X cls) σ e' = pD (zd X cls) := by funext F' H' G ρ v d; unfold pO; rw [q]; rfl
    rw [e1] at hm
    rw [e2] at en
    exact ⟨r, ρ', hm, en⟩
  | some i =>
    refine (g.vr i q).mono fun σ H Q ⟨B, F, ρ, O, s, h⟩ => ?_
    obtain ⟨r, ρ', hm, en⟩ := h
    have e1 : opd e' (den C e') = peekM i := by unfold opd; rw [q]
    rw [e1] at hm
    unfold peekM at hm
    cases p : peekV i ρ with
    | none => rw [p] at hm; cases hm
    | some d =>
      rw [p] at hm
      cases hm
      have hv : ∃ v, σ[i]? = some (some v) := by
        unfold peekV at p
        cases z : ρ[i]? with
        | none => rw [z] at p; cases p
        | some sl =>
          cases sl with
          | un => rw [z] at p; cases p
          | val d' => obtain ⟨v, a, _⟩ := s.sl.val_at z; exact ⟨v, a⟩
          | own o m => obtain ⟨v, fp, a, _⟩ := s.sl.own_at z; exact ⟨_, a⟩
      obtain ⟨v, hv⟩ := hv
      exact ⟨v, hv, en v F H O (Stp.rfl s) (by unfold pO; rw [q]; exact hv)⟩
/-- what is not a name is tested by its value -/
theorem pt_of {e : Ex} {t : TE} (h : PE X e t) (he : ∀ whole, isTrue e X.env whole = (do let v ← whole; standAt e.pos; holding [v] (truthy v))) : PT X e (tB t) := pt_val h he
/-! ### constants and names -/
theorem run_val {d : D} {v : VV} {σ : Sg} {H : Hp} {Q : VV → Hp → Prop} (r : ∀ F, Rp (zd X cls) F v d) (h : tE X cls Wx (M.ret (.val d)) σ H Q) : Q v H := by
  obtain ⟨B, F, ρ, O, s, h⟩ := h
  exact h.ret s ⟨[], ⟨r F, rfl⟩, fun b hb => nomatch hb⟩
theorem pe_lit_non {j : Nat} {p : Pos} : PE X (.Constant .none j p) (tE X cls Wx (M.ret (.val .non))) := pe_non.mono fun σ H Q h => run_val (v := .non) (fun F => .non) h
theorem pe_lit_bl {b : Bool} {j : Nat} {p : Pos} : PE X (.Constant (.bool b) j p) (tE X cls Wx (M.ret (.val (.bl b)))) := pe_bl.mono fun σ H Q h => run_val (v := .bl b) (fun F => .bl b) h
theorem pe_lit_int {b : Int} {j : Nat} {p : Pos} : PE X (.Constant (.int b) j p) (tE X cls Wx (M.ret (.val (.int b)))) := pe_int.mono fun σ H Q h => run_val (v := .int b) (fun F => .int b) h
theorem pe_lit_str {b : Str} {j : Nat} {p : Pos} : PE X (.Constant (.str b) j p) (tE X cls Wx (M.ret (.val (.str b)))) := pe_str.mono fun σ H Q h => run_val (v := .str b) (fun F => .str b) h
theorem run_var {i : Nat} {σ : Sg} {H : Hp} {Q : VV → Hp → Prop} (h : tE X cls Wx (den C (.var i)) σ H Q) : tVar i σ H Q := by
  obtain ⟨B, F, ρ, O, s, r, ρ', hm, en⟩ := h
  have hm' : (M.bnd (readV i) fun d => M.ret (.val d)) ρ = some (r, ρ') := hm
  unfold M.bnd M.ret readV at hm'
  cases q : ρ[i]? with
  | none => rw [q] at hm'; cases hm'
  | some sl =>
    rw [q] at hm'
    cases sl with
    | un => cases hm'
    | val d =>
      cases hm'
      obtain ⟨v, e, rr⟩ := s.sl.val_at q
      exact ⟨v, e, en v F H O (Stp.rfl s) ⟨[], ⟨rr, rfl⟩, fun b hb => nomatch hb⟩⟩
    | own o m =>
      cases m with
      | true => cases hm'
      | false =>
        cases p : frz o with
        | none => simp only [p] at hm'; cases hm'
        | some d =>
          simp only [p] at hm'
          cases hm'
          obtain ⟨F', O', v, st, e, rr⟩ := s.let_go q p
          exact ⟨v, e, en v F' H O' st ⟨[], ⟨rr, rfl⟩, fun b hb => nomatch hb⟩⟩
/-! ### operations -/
theorem opd_fin {e : E} {m : M W} {ρ ρ' : Env} {d : D} (h : opd e m ρ = some (.ok d, ρ')) : fin e d ρ' = some d := by
  unfold opd at h
  unfold fin
  cases q : isVar e with
  | none => rfl
  | some i =>
    rw [q] at h
    unfold peekM at h
    cases p : peekV i ρ with
    | none => simp only [p] at h; cases h
    | some x => simp only [p] at h; cases h; exact p
theorem s_op2 {a b : E} {k : D → D → M W} {r : R2} {σ : Sg} {H : Hp} {Q : VV → Hp → Prop}
    (hk : ∀ B F H ρ O x y d e Q, Sx (zd X cls) B F H σ ρ O → Sh (zd X cls) F H x d → Sh (zd X cls) F H y e → Run (zd X cls) B Wx (pW (zd X cls)) (k d e) σ F H ρ O Q → r x y H Q)
    (h : tE X cls Wx (M.bnd (opd a (den C a)) fun x => M.bnd (opd b (den C b)) fun y => fin2 a b x y k) σ H Q) : tOp r (tP X cls Wx C a) (tP X cls Wx C b) σ H Q := by
  obtain ⟨B, F, ρ, O, s, h⟩ := h
  refine ⟨B, F, ρ, O, s, h.seq (early_W _) fun x v F1 H1 ρ1 O1 _ st p h1 => ⟨B, F1, ρ1, O1, st.sx, h1.seq (early_W _) fun y w F2 H2 ρ2 O2 _ st2 p2 h2 => ?_⟩⟩
  obtain ⟨x', y', e1, e2, h3⟩ := h2.fin2
  exact hk B F2 H2 ρ2 O2 v w x' y' Q st2.sx (p.sh st2.sx st2.ff e1) (p2.sh st2.sx Sub.rfl e2) h3
theorem s_op1 {a : E} {k : D → M W} {r : VV → Hp → VK → Prop} {σ : Sg} {H : Hp} {Q : VV → Hp → Prop}
    (hk : ∀ B F H ρ O x d Q, Sx (zd X cls) B F H σ ρ O → Sh (zd X cls) F H x d → Run (zd X cls) B Wx (pW (zd X cls)) (k d) σ F H ρ O Q → r x H Q)
    (h : tE X cls Wx (M.bnd (opd a (den C a)) fun x => fin1 a x k) σ H Q) : tUn r (tP X cls Wx C a) σ H Q := by
  obtain ⟨B, F, ρ, O, s, h⟩ := h
  refine ⟨B, F, ρ, O, s, h.seq (early_W _) fun x v F1 H1 ρ1 O1 _ st p h1 => ?_⟩
  obtain ⟨x', e1, h3⟩ := h1.fin1
  exact hk B F1 H1 ρ1 O1 v x' Q st.sx (p.sh st.sx Sub.rfl e1) h3
theorem g_bin {a b : Ex} {a' b' : E} {op : BOp} {p : Pos} (ga : Good X cls Wx C a a') (gb : Good X cls Wx C b b') : Good X cls Wx C (.BinOp a (opOf op) b p) (.bin op a' b') := by
  have pe : PE X (.BinOp a (opOf op) b p) (tE X cls Wx (den C (.bin op a' b'))) := by
    refine (pe_op (opr_bin (cls := cls) op) ga.op gb.op).mono fun σ H Q h => s_op2 (fun B F H ρ O x y d e Q s hx hy h => ?_) (show tE X cls Wx (M.bnd (opd a' (den C a')) fun x => M.bnd (opd b' (den C b')) fun y => fin2 a' b' x y fun x y => newM (binD op x y)) σ H Q from h)
    obtain ⟨w, e1, af⟩ := h.newM s
    exact ⟨F, d, e, ownW w, s.fh, hx, hy, by show (binD op d e).map ownW = _; rw [e1]; rfl, af⟩
  exact ⟨pe, pt_of pe (by intro _; rfl), fun i h => by cases h⟩
theorem g_neg {a : Ex} {a' : E} {p : Pos} (ga : Good X cls Wx C a a') : Good X cls Wx C (.UnaryOp .USub a p) (.neg a') := by
  have pe : PE X (.UnaryOp .USub a p) (tE X cls Wx (den C (.neg a'))) := by
    refine (pe_un un_neg ga.op).mono fun σ H Q h => s_op1 (fun B F H ρ O x d Q s hx h => ?_) (show tE X cls Wx (M.bnd (opd a' (den C a')) fun x => fin1 a' x fun x => match x with | .int i => M.ret (.val (.int (-i))) | _ => M.stuck) σ H Q from h)
    cases d with
    | int i => cases hx.int; exact ⟨i, rfl, (h.after s).val s.fh (.int _)⟩
    | _ => exact h.stuck.elim
  exact ⟨pe, pt_of pe (by intro _; rfl), fun i h => by cases h⟩
theorem cp_of {op : CmpOp} {o : COp} (h : copOf op = some o) : op = cpOf o := by cases op <;> cases h <;> rfl
theorem bo_of {op : Operator} {o : BOp} (h : bopOf op = some o) : op = opOf o := by cases op <;> cases h <;> rfl
theorem g_cmp (hu : X.A.units + 64 < cLine) {a b : Ex} {a' b' : E} {op : COp} {p : Pos} (hm : behindInMarks (cpOf op) b = false) (ga : Good X cls Wx C a a') (gb : Good X cls Wx C b b') : Good X cls Wx C (.Compare a [cpOf op] [b] p) (.cmp op a' b') := by
  have key : ∀ σ H Q, tE X cls Wx (den C (.cmp op a' b')) σ H Q → tOp (rC (zd X cls) (cmpD op)) (tP X cls Wx C a') (tP X cls Wx C b') σ H Q := fun σ H Q h =>
    s_op2 (fun B F H ρ O x y d e Q s hx hy h => by
      obtain ⟨w, e1, q⟩ := h.blM s
      exact ⟨F, d, e, w, s.fh, hx, hy, e1, q⟩) (show tE X cls Wx (M.bnd (opd a' (den C a')) fun x => M.bnd (opd b' (den C b')) fun y => fin2 a' b' x y fun x y => blM (cmpD op x y)) σ H Q from h)
  exact ⟨(pe_cmpR (opr_cmp hu op) ga.op gb.op hm).mono key, (pt_cmpR (opr_cmp hu op) ga.op gb.op hm).mono fun σ H Q h => key σ H _ h, fun i h => by cases h⟩
theorem g_chain (hu : X.A.units + 64 < cLine) {a b c : Ex} {a' b' c' : E} {op op' : COp} {p : Pos} (hm : lastMarks [cpOf op, cpOf op'] [b, c] = false) (ga : Good X cls Wx C a a') (gb : Good X cls Wx C b b') (gc : Good X cls Wx C c c') : Good X cls Wx C (.Compare a [cpOf op, cpOf op'] [b, c] p) (.chain op op' a' b' c') := by
  have key : ∀ σ H Q, tE X cls Wx (den C (.chain op op' a' b' c')) σ H Q → tChain (rC (zd X cls) (cmpD op)) (rC (zd X cls) (cmpD op')) (tP X cls Wx C a') (tP X cls Wx C b') (tP X cls Wx C c') σ H Q := by
    intro σ H Q h
    have h0 : tE X cls Wx (M.bnd (opd a' (den C a')) fun x => M.bnd (opd b' (den C b')) fun y => fin2 a' b' x y fun x' y' => M.bnd (M.lift (cmpD op x' y')) fun k =>
      if k then M.bnd (opd c' (den C c')) fun z => fin2 b' c' y z fun y z => blM (cmpD op' y z) else M.ret (.val (.bl false))) σ H Q := h
    obtain ⟨B, F, ρ, O, s, h1⟩ := h0
    refine ⟨B, F, ρ, O, s, h1.seq (early_W _) fun x v F1 H1 ρ1 O1 _ st p1 h1 => ⟨B, F1, ρ1, O1, st.sx, h1.seq (early_W _) fun y w F2 H2 ρ2 O2 _ st2 p2 h2 => ?_⟩⟩
    obtain ⟨x', y', e1, e2, h3⟩ := h2.fin2
    obtain ⟨k, hk, h4⟩ := h3.lift
    refine ⟨F2, x', y', k, st2.sx.fh, p1.sh st2.sx st2.ff e1, p2.sh st2.sx Sub.rfl e2, hk, k, rfl, ?_⟩
    cases k with
    | false => exact (h4.after st2.sx).val st2.sx.fh (.bl false)
    | true =>
      refine ⟨B, F2, ρ2, O2, st2.sx, h4.seq (early_W _) fun z u F3 H3 ρ3 O3 _ st3 p3 h5 => ?_⟩
      obtain ⟨y2, z', e3, e4, h6⟩ := h5.fin2
      obtain ⟨w2, e5, q⟩ := h6.blM st3.sx
      exact ⟨F3, y2, z', w2, st3.sx.fh, p2.sh st3.sx st3.ff e3, p3.sh st3.sx Sub.rfl e4, e5, q⟩
  exact ⟨(pe_chain (opr_cmp hu op) (opr_cmp hu op') ga.op gb.op gc.op hm).mono key, (pt_chain (opr_cmp hu op) (opr_cmp hu op') ga.op gb.op gc.op hm).mono fun σ H Q h => key σ H _ h, fun i h => by cases h⟩
/-! ### truth -/
theorem Run.bool {k : Bool → M W} {x : VV} {d : D} {σ : Sg} {F F1 H : Hp} {ρ : Env} {O : List Addr} {Q : VV → Hp → Prop} (r : Rp (zd X cls) F1 x d) (h : Run (zd X cls) B Wx (pW (zd X cls)) (boolOf d k) σ F H ρ O Q) : ∃ b, x = .bl b ∧ Run (zd X cls) B Wx (pW (zd X cls)) (k b) σ F H ρ O Q := by
  cases d with
  | bl b => cases r; exact ⟨b, rfl, h⟩
  | _ => exact h.stuck.elim
theorem g_not {a : Ex} {a' : E} {p : Pos} (ga : Good X cls Wx C a a') : Good X cls Wx C (.UnaryOp .Not a p) (.not a') := by
  have key : ∀ σ H Q, tE X cls Wx (den C (.not a')) σ H Q → tF X cls Wx (fzM (den C a')) σ H fun x H1 => ∃ c, x = .bl c ∧ Q (.bl (!c)) H1 := by
    intro σ H Q h
    obtain ⟨B, F, ρ, O, s, h1⟩ := (show tE X cls Wx (M.bnd (fzM (den C a')) fun x => boolOf x fun k => M.ret (.val (.bl (!k)))) σ H Q from h)
    refine ⟨B, F, ρ, O, s, h1.seq (early_W _) fun x v F1 H1 ρ1 O1 _ st p1 h2 => ?_⟩
    obtain ⟨b, rfl, h3⟩ := h2.bool p1
    exact ⟨b, rfl, (h3.after st.sx).val st.sx.fh (.bl _)⟩
  refine ⟨(pe_not ga.fz).mono key, (L2.pt_not ga.fzt).mono fun σ H Q h => ?_, fun i h => by cases h⟩
  exact tM_imp (key σ H _ h) fun x H1 ⟨c, e, c', e', q⟩ => by
    cases e'
    exact ⟨c, e, q⟩
/-- a and b, a or b -/
theorem key_and {a' b' : E} {σ : Sg} {H : Hp} {Q : VV → Hp → Prop} (h : tE X cls Wx (den C (.and a' b')) σ H Q) : tAndV (tF X cls Wx (fzM (den C a'))) (tE X cls Wx (den C b')) σ H Q := by
  obtain ⟨B, F, ρ, O, s, h1⟩ := (show tE X cls Wx (M.bnd (fzM (den C a')) fun x => boolOf x fun k => if k then den C b' else M.ret (.val (.bl false))) σ H Q from h)
  refine ⟨B, F, ρ, O, s, h1.seq (early_W _) fun x v F1 H1 ρ1 O1 _ st p1 h2 => ?_⟩
  obtain ⟨b, rfl, h3⟩ := h2.bool p1
  refine ⟨b, rfl, ?_⟩
  cases b with
  | true => exact ⟨B, F1, ρ1, O1, st.sx, h3⟩
  | false => exact (h3.after st.sx).val st.sx.fh (.bl false)
theorem key_or {a' b' : E} {σ : Sg} {H : Hp} {Q : VV → Hp → Prop} (h : tE X cls Wx (den C (.or a' b')) σ H Q) : tOrV (tF X cls Wx (fzM (den C a'))) (tE X cls Wx (den C b')) σ H Q := by
  obtain ⟨B, F, ρ, O, s, h1⟩ := (show tE X cls Wx (M.bnd (fzM (den C a')) fun x => boolOf x fun k => if k then M.ret (.val (.bl true)) else den C b') σ H Q from h)
  refine ⟨B, F, ρ, O, s, h1.seq (early_W _) fun x v F1 H1 ρ1 O1 _ st p1 h2 => ?_⟩
  obtain ⟨b, rfl, h3⟩ := h2.bool p1
  refine ⟨b, rfl, ?_⟩
  cases b with
  | false => exact ⟨B, F1, ρ1, O1, st.sx, h3⟩
  | true => exact (h3.after st.sx).val st.sx.fh (.bl true)
theorem test_and {ta tb : TE} {σ : Sg} {H : Hp} {Q : Bool → Hp → Prop} (h : tB (tAndV ta tb) σ H Q) (ia : ∀ σ H (Q Q' : VV → Hp → Prop), (∀ x H, Q x H → Q' x H) → ta σ H Q → ta σ H Q') : tAnd (tB ta) (tB tb) σ H Q := by
  refine ia _ _ _ _ (fun x H1 hx => ?_) h
  obtain ⟨c, e, q⟩ := hx
  refine ⟨c, e, ?_⟩
  cases c with
  | true => exact q
  | false => obtain ⟨c, e, q⟩ := q; cases e; exact q
theorem test_or {ta tb : TE} {σ : Sg} {H : Hp} {Q : Bool → Hp → Prop} (h : tB (tOrV ta tb) σ H Q) (ia : ∀ σ H (Q Q' : VV → Hp → Prop), (∀ x H, Q x H → Q' x H) → ta σ H Q → ta σ H Q') : tOr (tB ta) (tB tb) σ H Q := by
  refine ia _ _ _ _ (fun x H1 hx => ?_) h
  obtain ⟨c, e, q⟩ := hx
  refine ⟨c, e, ?_⟩
  cases c with
  | false => exact q
  | true => obtain ⟨c, e, q⟩ := q; cases e; exact q
theorem imp_F {m : M D} (σ : Sg) (H : Hp) (Q Q' : VV → Hp → Prop) (k : ∀ x H, Q x H → Q' x H) (h : tF X cls Wx m σ H Q) : tF X cls Wx m σ H Q' := tM_imp h k
/-- a chain of and: as an expression, as a test -/
structure GoodB (X : Cx) (cls : Nm) (Wx : WX) (C : Cfg) (e : Ex) (e' : E) : Prop where
  pe : PE X e (tE X cls Wx (den C e'))
  pw : PW X e (tB (tE X cls Wx (den C e')))
theorem GoodB.good {e : Ex} {e' : E} (g : GoodB X cls Wx C e e') (h : isVar e' = none) : Good X cls Wx C e e' := ⟨g.pe, g.pw.pt, fun i k => by rw [h] at k; cases k⟩
theorem gb_and {a b : Ex} {a' b' : E} {r : List Ex} {p : Pos} (ga : Good X cls Wx C a a') (gb : PE X (.BoolOp .And (b :: r) p) (tE X cls Wx (den C b'))) (gw : PW X (.BoolOp .And (b :: r) p) (tB (tE X cls Wx (den C b')))) : GoodB X cls Wx C (.BoolOp .And (a :: b :: r) p) (.and a' b') :=
  ⟨(pe_and ga.fz gb).mono fun σ H Q h => key_and h, ⟨fun whole pins s σ H Q I h => (pw_and ga.fzt gw).run whole pins s σ H Q I (test_and (key_and h) imp_F)⟩⟩
theorem gb_or {a b : Ex} {a' b' : E} {r : List Ex} {p : Pos} (ga : Good X cls Wx C a a') (gb : PE X (.BoolOp .Or (b :: r) p) (tE X cls Wx (den C b'))) (gw : PW X (.BoolOp .Or (b :: r) p) (tB (tE X cls Wx (den C b')))) : GoodB X cls Wx C (.BoolOp .Or (a :: b :: r) p) (.or a' b') :=
  ⟨(pe_or ga.fz gb).mono fun σ H Q h => key_or h, ⟨fun whole pins s σ H Q I h => (pw_or ga.fzt gw).run whole pins s σ H Q I (test_or (key_or h) imp_F)⟩⟩
theorem gb_and2 {a b : Ex} {a' b' : E} {p : Pos} (ga : Good X cls Wx C a a') (gb : Good X cls Wx C b b') : GoodB X cls Wx C (.BoolOp .And [a, b] p) (.and a' b') := gb_and ga (pe_one gb.pe) (pw_and1 gb.pt)
theorem gb_or2 {a b : Ex} {a' b' : E} {p : Pos} (ga : Good X cls Wx C a a') (gb : Good X cls Wx C b b') : GoodB X cls Wx C (.BoolOp .Or [a, b] p) (.or a' b') := gb_or ga (pe_one gb.pe) (pw_or1 gb.pt)
theorem g_if {c a b : Ex} {c' a' b' : E} {p : Pos} (gc : Good X cls Wx C c c') (ga : Good X cls Wx C a a') (gb : Good X cls Wx C b b') (ht : ∀ {tc : TT} {ta tb : TT}, PT X c tc → PT X a ta → PT X b tb → PT X (.IfExp c a b p) (fun σ H Q => tc σ H fun k H1 => if k = true then ta σ H1 Q else tb σ H1 Q)) : Good X cls Wx C (.IfExp c a b p) (.ifE c' a' b') := by
  have key : ∀ σ H Q, tE X cls Wx (den C (.ifE c' a' b')) σ H Q → tIf (tB (tF X cls Wx (fzM (den C c')))) (tE X cls Wx (den C a')) (tE X cls Wx (den C b')) σ H Q := by
    intro σ H Q h
    obtain ⟨B, F, ρ, O, s, h1⟩ := (show tE X cls Wx (M.bnd (fzM (den C c')) fun x => boolOf x fun k => if k then den C a' else den C b') σ H Q from h)
    refine ⟨B, F, ρ, O, s, h1.seq (early_W _) fun x v F1 H1 ρ1 O1 _ st p1 h2 => ?_⟩
    obtain ⟨k, rfl, h3⟩ := h2.bool p1
    refine ⟨k, rfl, ?_⟩
    cases k with
    | true => exact ⟨B, F1, ρ1, O1, st.sx, h3⟩
    | false => exact ⟨B, F1, ρ1, O1, st.sx, h3⟩
  exact ⟨(pe_ifExp gc.fzt ga.pe gb.pe).mono key, (ht gc.fzt ga.pt gb.pt).mono fun σ H Q h => tM_imp (key σ H _ h) fun x H1 ⟨k, e, q⟩ => ⟨k, e, by cases k <;> exact q⟩, fun i h => by cases h⟩
/-! ### items, slices -/
theorem g_idx (hu : X.A.units + 64 < cLine) {a b : Ex} {a' b' : E} {p : Pos} (hb : isSlice b = false) (ga : Good X cls Wx C a a') (gb : Good X cls Wx C b b') : Good X cls Wx C (.Subscript a b p) (.idx a' b') := by
  have pl : PlainIx b := by
    intro o i
    cases b <;> first | rfl | cases hb
  have pe : PE X (.Subscript a b p) (tE X cls Wx (den C (.idx a' b'))) := by
    refine (pe_ix (ixr (cls := cls) hu) ga.op gb.op pl).mono fun σ H Q h => s_op2 (fun B F H ρ O x y d e Q s hx hy h => ?_) (show tE X cls Wx (M.bnd (opd a' (den C a')) fun x => M.bnd (opd b' (den C b')) fun y => fin2 a' b' x y fun x y => valM (idxD x y)) σ H Q from h)
    obtain ⟨w, e1, af⟩ := h.valM s
    exact ⟨F, d, e, w, s.fh, hx, hy, e1, fun v r => af.val s.fh r⟩
  exact ⟨pe, pt_of pe (by intro _; rfl), fun i h => by cases h⟩
def tPt (X : Cx) (cls : Nm) (Wx : WX) (C : Cfg) (e : Option E) : TO := fun σ H Q => tM (zd X cls) Wx (pE (Option Int)) (denO C e) σ H Q
theorem po_of {e : Option Ex} {e' : Option E} (h : match e, e' with | none, none => True | some e, some e' => Good X cls Wx C e e' | _, _ => False) : PO X e (tPt X cls Wx C e') := by
  cases e with
  | none =>
    cases e' with
    | some _ => exact h.elim
    | none =>
      refine ⟨fun pins s σ H Q I q => po_none.run pins s σ H Q I ?_⟩
      obtain ⟨B, F, ρ, O, sx, r⟩ := q
      exact (show Run (zd X cls) B Wx (pE (Option Int)) (M.ret none) σ F H ρ O Q from r).ret sx rfl
  | some e =>
    cases e' with
    | none => exact h.elim
    | some e' =>
      refine ⟨fun pins s σ H Q I q => (po_some (Good.fz h)).run pins s σ H Q I ?_⟩
      obtain ⟨B, F, ρ, O, sx, r⟩ := q
      have r' : Run (zd X cls) B Wx (pE (Option Int)) (M.bnd (fzM (den C e')) fun d => match d with | .int i => M.ret (some i) | _ => M.stuck) σ F H ρ O Q := r
      refine ⟨B, F, ρ, O, sx, r'.seq (early_E _) fun x v F1 H1 ρ1 O1 _ st p1 h2 => ?_⟩
      cases x with
      | int i => cases p1; exact ⟨i, rfl, h2.ret st.sx rfl⟩
      | _ => exact h2.stuck.elim
theorem g_slice {a : Ex} {a' : E} {lo hi : Option Ex} {lo' hi' : Option E} {p p2 : Pos} (ga : Good X cls Wx C a a') (gl : match lo, lo' with | none, none => True | some e, some e' => Good X cls Wx C e e' | _, _ => False) (gh : match hi, hi' with | none, none => True | some e, some e' => Good X cls Wx C e e' | _, _ => False) : Good X cls Wx C (.Subscript a (.Slice lo hi none p2) p) (.slice a' lo' hi') := by
  have pe : PE X (.Subscript a (.Slice lo hi none p2) p) (tE X cls Wx (den C (.slice a' lo' hi'))) := by
    refine (pe_slice (slr (cls := cls)) ga.op (po_of gl) (po_of gh)).mono fun σ H Q h => ?_
    obtain ⟨B, F, ρ, O, s, h1⟩ := (show tE X cls Wx (M.bnd (opd a' (den C a')) fun x => M.bnd (denO C lo') fun l => M.bnd (denO C hi') fun h => fin1 a' x fun x => newM (sliceD x l h)) σ H Q from h)
    refine ⟨B, F, ρ, O, s, h1.seq (early_W _) fun x v F1 H1 ρ1 O1 _ st p1 h2 => ⟨B, F1, ρ1, O1, st.sx, h2.seq (early_W _) fun l l' F2 H2 ρ2 O2 _ st2 p2 h3 => ⟨B, F2, ρ2, O2, st2.sx, h3.seq (early_W _) fun m m' F3 H3 ρ3 O3 _ st3 p3 h4 => ?_⟩⟩⟩
    cases p2
    cases p3
    obtain ⟨x', e1, h5⟩ := h4.fin1
    obtain ⟨w, e2, af⟩ := h5.newM st3.sx
    exact ⟨F3, x', w, st3.sx.fh, p1.sh st3.sx (st2.ff.tr st3.ff) e1, e2, af⟩
  exact ⟨pe, pt_of pe (by intro _; rfl), fun i h => by cases h⟩
theorem g_rev {a : Ex} {a' : E} {k : Nat} {p1 p2 p3 p : Pos} (ga : Good X cls Wx C a a') : Good X cls Wx C (.Subscript a (.Slice none none (some (.UnaryOp .USub (.Constant (.int 1) k p1) p2)) p3) p) (.rev a') := by
  have pe : PE X (.Subscript a (.Slice none none (some (.UnaryOp .USub (.Constant (.int 1) k p1) p2)) p3) p) (tE X cls Wx (den C (.rev a'))) := by
    refine (pe_back (cls := cls) ga.op).mono fun σ H Q h => s_op1 (fun B F H ρ O x d Q s hx h => ?_) (show tE X cls Wx (M.bnd (opd a' (den C a')) fun x => fin1 a' x fun x => newM (revD x)) σ H Q from h)
    obtain ⟨w, e2, af⟩ := h.newM s
    exact ⟨F, d, w, s.fh, hx, e2, af⟩
  exact ⟨pe, pt_of pe (by intro _; rfl), fun i h => by cases h⟩
end
end Py
set_option Elab.async false
set_option linter.all false
set_option maxRecDepth 100000
set_option maxHeartbeats 4000000
/-! PyXa: own exceptions whose __init__ says super().__init__('..') and stores its parameters. -/
namespace Py
open PySem PySem.Spec L2 PySem.SeqAt PyProof.Rows
theorem lookup_zip_isSome {α β : Type} [BEq α] [LawfulBEq α] : ∀ {ns : List α} {us : List β} {n : α}, n ∈ ns → us.length = ns.length → ((ns.zip us).lookup n).isSome = true
  | [], _, _, h, _ => by cases h
  | a :: ns, [], _, _, l => by cases l
  | a :: ns, u :: us, n, h, l => by
    rw [List.zip_cons_cons, List.lookup_cons]
    by_cases e : n = a
    · subst e; simp
    · rw [show (n == a) = false from by simpa using e]
      exact lookup_zip_isSome ((List.mem_cons.mp h).resolve_left e) (by simpa using l)
theorem filterMap_eq {α β : Type} {f g : α → Option β} : ∀ {ms : List α}, (∀ n ∈ ms, f n = g n) → ms.filterMap f = ms.filterMap g
  | [], _ => rfl
  | m :: ms, h => by
    rw [List.filterMap_cons, List.filterMap_cons, h m (List.mem_cons_self ..), filterMap_eq (ms := ms) fun n hn => h n (List.mem_cons_of_mem _ hn)]
theorem filterMap_zip {β : Type} : ∀ {ns : List Str} {us : List β}, ns.Nodup → us.length = ns.length → (ns.filterMap fun n => ((ns.zip us).lookup n).map (n, ·)) = ns.zip us
  | [], us, _, _ => by simp
  | a :: ns, [], _, l => by cases l
  | a :: ns, u :: us, nd, l => by
    rw [List.nodup_cons] at nd
    rw [List.zip_cons_cons, List.filterMap_cons]
    simp only [List.lookup_cons, beq_self_eq_true, Option.map_some]
    refine congrArg _ ?_
    refine Eq.trans (filterMap_eq fun n hn => ?_) (filterMap_zip (us := us) nd.2 (by simpa using l))
    rw [show (n == a) = false from by simpa using (fun e => nd.1 (e ▸ hn) : n ≠ a)]
/-- plain parameters, all of them given -/
theorem bind_plain {fd : FuncData} {as : List PySem.Arg} (hp : fd.params = ⟨[], as, none, [], [], none, []⟩) (hd : fd.defaults = .none) (nd : (as.map (·.arg)).Nodup) (us : List Value) (hl : us.length = (as.map (·.arg)).length) :
    bindArgs fd ⟨us, []⟩ = pure ((as.map (·.arg)).zip us) := by
  have e1 : seqItems? fd.defaults = pure none := by rw [hd]; rfl
  unfold bindArgs
  simp only [hp, e1, pure_bind, List.map_nil, List.nil_append, List.append_nil, List.forIn_nil, Option.getD_none, Array.toList_empty, List.drop_nil, List.length_nil, List.zip_nil_right, Nat.sub_zero, List.take_length, List.drop_length, List.isEmpty_nil, Bool.not_true, Option.isNone_none, Bool.and_true]
  have e2 : (List.filter (fun n => (List.lookup n ((List.map (fun x => x.arg) as).zip us)).isNone) (List.map (fun x => x.arg) as)) = [] := by
    rw [List.filter_eq_nil_iff]
    intro n hn
    have := lookup_zip_isSome (us := us) hn hl
    rw [Option.isNone_iff_eq_none]
    intro z
    rw [z] at this
    cases this
  have e3 : ¬ (us.length > (List.map (fun x => x.arg) as).length) := by omega
  simp [hl, e2, filterMap_zip nd hl]
/-! ### the __init__ -/
def isAsg (f : Str) : Stmt → Bool
  | .Assign [.Attribute (.Name o _) g _] (.Name p _) _ => o == ("self" : Str) && (g == f && p == f)
  | _ => false
def isAsgs : List Stmt → List Str → Bool
  | [], [] => true
  | s :: r, f :: fs => isAsg f s && isAsgs r fs
  | _, _ => false
def isInit (fs : List Str) : List Stmt → Bool
  | .Expr (.Call (.Attribute (.Call (.Name x _) [] [] _) i pa) [.Constant (.str _) _ _] [] pb) _ :: r => x == ("super" : Str) && (i == ("__init__" : Str) && ((pa.endLine == pb.line) && isAsgs r fs))
  | _ => false
theorem isAsg_ok {f : Str} {s : Stmt} (h : isAsg f s = true) : ∃ p1 p2 p3 p4, s = .Assign [.Attribute (.Name "self" p1) f p2] (.Name f p3) p4 := by
  unfold isAsg at h
  split at h
  · simp only [Bool.and_eq_true, beq_iff_eq] at h
    obtain ⟨rfl, rfl, rfl⟩ := h
    exact ⟨_, _, _, _, rfl⟩
  · cases h
theorem isInit_ok {fs : List Str} {b : List Stmt} (h : isInit fs b = true) : ∃ m j p0 p1 p2 p3 p4 p5 r, b = .Expr (.Call (.Attribute (.Call (.Name "super" p0) [] [] p1) "__init__" p2) [.Constant (.str m) j p3] [] p4) p5 :: r ∧ (p2.endLine == p4.line) = true ∧ isAsgs r fs = true := by
  unfold isInit at h
  split at h
  · simp only [Bool.and_eq_true, beq_iff_eq] at h
    obtain ⟨rfl, rfl, h2, h⟩ := h
    exact ⟨_, _, _, _, _, _, _, _, _, rfl, by simpa using h2, h⟩
  · cases h
/-- the def of an own class of exceptions' __init__, its fields fs -/
structure IniF (P : Program) (K : PySem.W.Frag) (C fI : Addr) (fs : List Str) (fd : FuncData) (as : List PySem.Arg) (body : List Stmt) (cc cda : Addr) : Prop where
  lk : ∃ oc od osl, K.lookup fI = some ⟨oc, od, .func fd, osl⟩
  par : fd.params = ⟨[], as, none, [], [], none, []⟩
  nms : as.map (·.arg) = ("self" : Str) :: fs
  dfl : fd.defaults = .none
  bod : fd.body = .stmts body
  ini : isInit fs body = true
  clo : fd.closure = [(("__class__" : Str), cc)]
  glo : fd.globals = mainGlobals
  blt : fd.builtins = builtinsNs
  code : fd.code = .ref cda
  crec : PySem.W.codeIn K (.ref cda) fd.qualname = true
  kind : fd.scope.kind = .function
  co : fd.scope.isCoroutine = false
  gen : fd.scope.isGenerator = false
  s1 : fd.scope.names.lookup ("super" : Str) = some .globalImplicit
  s2 : fd.scope.names.lookup ("__class__" : Str) = some .free
  s3 : ∀ f ∈ ("self" : Str) :: fs, fd.scope.names.lookup f = some .local ∧ (f == ("__debug__" : Str)) = false
  s4 : ∀ x ∈ fd.scope.names, x.2 ≠ .cell
  file : ∃ oc od vs osl file tf, K.lookup cda = some ⟨oc, od, .fields vs, osl⟩ ∧ vs[2]? = some (.str file tf) ∧ ((P.main.file : Str) == file) = true
  cell : ∃ oc od osl, K.lookup cc = some ⟨oc, od, .cell (some (.ref C)), osl⟩
/-- what the written part says of such a class -/
structure ExiC (P : Program) (K : PySem.W.Frag) (C : Addr) (fs : List Str) : Prop where
  oex : OexC K C
  ini : ∃ fI fd as body cc cda, PySem.W.findIn K (.ref C) "__init__" = some (some (.ref fI)) ∧ PySem.W.typeIn K (.ref fI) = some (.type "function") ∧ IniF P K C fI fs fd as body cc cda
  sup : PySem.W.ks_superIn K C C "__init__" = some (some (.builtin "ValueError.__init__"))
  any : PySem.W.nsIn K cStatics "thirdparty.any" = some none
  sB : PySem.W.subIn K (.ref C) (.type "ValueError") = some true
  sC : PySem.W.mroIn K C (.ref C) = some true
  top : (P.main.scope.names.lookup ("super" : Str)).isSome = false
  no : ∀ f ∈ fs, PySem.W.findIn K (.ref C) f = some none
  nd : (("self" : Str) :: fs).Nodup
  ne : fs ≠ []
  sz : fs.length ≤ 900
section
open PySem.W PySem.Calls
variable {prog : Program} {w : World} {A : Around} {E : Value → Shared → Prop} {h : Heap} {g : Array GenState} {d : Drawn} {t : Nat} {os : OsState}
variable {nm q : Str} {C N : Addr} {bs bm : List Value} {hdct : Bool} {sn : List Str} {sub : List Value} {ab : Bool} {col : Option Bool} {dd : Option Addr} {k0 k1 k2 k3 k5 : Option Value}
/-- super().__init__(..), bound, called -/
theorem call_mw {u e t0 : Addr} {rest : List Value} {Q : Value → Shared → Prop}
    (hC : h.get? C = some (excClassObj nm q C N bs bm hdct sn sub ab col dd k0 k1 k2 k3 k5 "ValueError.__new__")) (he : h.get? e = some (HandSPX.excO C t0)) (hu : h.get? u = some (kxs_mw "ValueError.__init__" e)) (hrest : rest.length ≤ sizeLine)
    (hq : ∀ h' t1, (∀ b o, b ≠ e → h.get? b = some o → h'.get? b = some o) → h'.get? e = some (HandSPX.excO C t1) → Q .none ⟨h', g, d, t, os⟩) :
    wpAny (model prog w) A (call (.ref u) rest) Q E ⟨h, g, d, t, os⟩ := by
  refine wpAny_call (codeAny_of_tree ?_)
  show wpAny _ A.in1 (callAny (.ref u) ⟨rest, []⟩) _ _ _
  simp only [callAny]
  refine wpAny_bind (wpAny_load hu ?_)
  simp only [kxs_mw, show (Value.type "method-wrapper" == Value.type "method" || Value.type "method-wrapper" == Value.type "builtin_function_or_method" || Value.type "method-wrapper" == Value.type "method-wrapper") = true by decide, if_true]
  refine KFB.if_so (by decide) ?_
  refine wpAny_bind (check_bound_init F.excBase_ValueError.toExcCallFacts hC he rfl ?_)
  refine wpAny_bind (wpAny_pure (wpAny_pure ?_))
  refine ⟨plainId_quiet F.excBase_ValueError.init.plain _, codeAny_builtin F.excBase_ValueError.initEntry ?_⟩
  exact exc_init_tree (cls := .ref C) (t0 := t0) (dv := none) (c2 := .none) (c3 := .none) (b4 := .bool false) he hrest fun h' k e' _ => hq h' _ k e'
end
section
open PySem.W PySem.Calls
variable {prog : Program} {w : World} {A : Around} {E : Value → Shared → Prop} {K : PySem.W.Frag}
/-- self.f = f, one behind another -/
theorem asgs_run {C e L : Addr} {h0 : Heap} {env : PySem.Env} {m : Str → Option Value} {all : List Str} {Q : Flow → Shared → Prop} {os : OsState} {g : Array GenState} {dr : Drawn} (T : OexC K C) (X0 : K.In h0) (hk : env.scope.kind = .function) (hL : env.locals = L)
    (he : h0.objs.size ≤ e) (hLe : L ≠ e) (hse : m "self" = some (.ref e)) (kse : env.kindOf "self" = some .local) (sz : all.length ≤ 900) :
    ∀ (fs : List Str) (b : List Stmt) (hd : List Str) (hp : Heap) (t : Nat) (dv : Option Addr) (t1 : Addr), isAsgs b fs = true → hd ++ fs = all → all ≠ [] →
      (∀ f ∈ fs, (∃ v, m f = some v) ∧ env.kindOf f = some .local ∧ (f == ("__debug__" : Str)) = false ∧ PySem.W.findIn K (.ref C) f = some none) →
      (∀ b o, h0.get? b = some o → hp.get? b = some o) → hp.Ns L m → hp.get? e = some { cls := .ref C, dict := dv, data := .fields #[.ref t1, .none, .none, .none, .bool false, .none] } →
      ((dv = none ∧ hd = []) ∨ ∃ dx, dv = some dx ∧ hp.Ns1 dx (fun y => if y ∈ hd then m y else none) ∧ h0.objs.size ≤ dx ∧ dx ≠ e ∧ dx ≠ L) →
      (∀ h' dx t', (∀ b o, h0.get? b = some o → h'.get? b = some o) → h'.get? e = some { cls := .ref C, dict := some dx, data := .fields #[.ref t1, .none, .none, .none, .bool false, .none] } → h'.Ns1 dx (fun y => if y ∈ all then m y else none) →
        h0.objs.size ≤ dx → dx ≠ e → Q .next ⟨h', g, dr, t', os⟩) →
      wpAny (model prog w) A (execs b env) Q E ⟨hp, g, dr, t, os⟩ := by
  obtain ⟨nm, q, N, bs, bm, sn, sub, ab, col, dd, k0, k1, k2, k3, k5, hC, hbm⟩ := T.cls
  have hcl : PySem.W.clsIn K C = some { name := nm, bases := bs, mro := .ref C :: bm, ns := N, qualname := q, hasDict := true, slotNames := sn, subclasses := sub, abstract := ab, collection := col, hasDel := false } := by unfold PySem.W.clsIn; rw [hC] <;> rfl
  intro fs
  induction fs with
  | nil =>
    intro b hd hp t dv t1 ha hall hne _ kp hn hx hdv hq
    cases b with
    | cons s r => cases ha
    | nil =>
      rw [List.append_nil] at hall
      subst hall
      rcases hdv with ⟨_, z⟩ | ⟨dx, rfl, n1, s1, s2, s3⟩
      · exact absurd z hne
      · exact wpAny_execs_nil (hq hp dx t kp hx n1 s1 s2)
  | cons f fs ih =>
    intro b hd hp t dv t1 ha hall hne hf kp hn hx hdv hq
    cases b with
    | nil => cases ha
    | cons s r =>
      unfold isAsgs at ha
      rw [Bool.and_eq_true] at ha
      obtain ⟨p1, p2, p3, p4, rfl⟩ := isAsg_ok ha.1
      obtain ⟨⟨v, hv⟩, kf, df, hno⟩ := hf f (List.mem_cons_self ..)
      subst hL
      have X : K.In hp := X0.keeps kp
      refine wpAny_execs_cons (plainObj_wpAny_Assign_Attribute (wpAny_Name (wpAny_loadName_local hk kf hn hv (wpAny_Name (wpAny_loadName_local hk kse hn hse ?_) (by decide))) df))
      have step : ∀ (h' : Heap) (t' : Nat) (dx : Addr), (∀ b o, h0.get? b = some o → h'.get? b = some o) → h'.Ns env.locals m → h'.get? e = some { cls := .ref C, dict := some dx, data := .fields #[.ref t1, .none, .none, .none, .bool false, .none] } →
          h'.Ns1 dx (fun y => if y ∈ hd ++ [f] then m y else none) → h0.objs.size ≤ dx → dx ≠ e → dx ≠ env.locals → wpAny (model prog w) A (execs r env) Q E ⟨h', g, dr, t', os⟩ := fun h' t' dx k1 k2 k3 k4 k5 k6 k7 =>
        ih r (hd ++ [f]) h' t' (some dx) t1 ha.2 (by rw [List.append_assoc]; exact hall) hne (fun y hy => hf y (List.mem_cons_of_mem _ hy)) k1 k2 k3 (.inr ⟨dx, rfl, k4, k5, k6, k7⟩) hq
      have hmA : ∀ (m0 : Str → Option Value), (∀ y, m0 y = if y ∈ hd then m y else none) → (fun y => if y = f then some v else m0 y) = fun y => if y ∈ hd ++ [f] then m y else none := fun m0 hm0 => by
        funext y
        by_cases hy : y = f
        · subst hy; simp [hv]
        · rw [if_neg hy, hm0]; simp [hy]
      rcases hdv with ⟨rfl, rfl⟩ | ⟨dx, rfl, n1, s1, s2, s3⟩
      · refine PySem.W.set_plain X (ox := { cls := .ref C, dict := none, data := .fields #[.ref t1, .none, .none, .none, .bool false, .none] }) (od := none) ⟨hx, rfl, rfl, trivial⟩ T.sa ?_
        refine PySem.HandSPX.exc_osa X hx hcl (show PySem.HandSPX.refsVE (.ref C :: bm) = true from hbm) rfl hno (fun h' tk' dx k dn dne hx' hn' => ?_)
        have sz0 : h0.objs.size ≤ hp.objs.size := Nat.le_of_not_lt fun z => by
          have := hp.objs.size
          obtain ⟨o, ho⟩ : ∃ o, hp.get? e = some o := ⟨_, hx⟩
          exact absurd (Nat.lt_of_lt_of_le (Heap.lt_size ho) (Nat.le_of_lt z)) (Nat.not_lt.mpr he)
        obtain ⟨oL, esL, epL, hoL, rL⟩ := hn
        refine step h' tk' dx (fun b o z => k b o (fun y => ?_) (kp b o z)) ⟨oL, esL, epL, k _ _ hLe hoL, rL⟩ hx' ?_ (Nat.le_trans sz0 dn) dne ?_
        · subst y; exact absurd (Heap.lt_size z) (Nat.not_lt.mpr he)
        · rw [← hmA (fun _ => none) fun y => by simp]; exact hn'
        · exact fun z => absurd (Heap.lt_size hoL) (Nat.not_lt.mpr (by rw [← z]; exact dn))
      · obtain ⟨oD, _, _, hoD, _⟩ := n1
        have n1 : hp.Ns1 dx (fun y => if y ∈ hd then m y else none) := ⟨oD, _, _, hoD, ‹_›⟩
        refine PySem.W.set_plain X (ox := { cls := .ref C, dict := some dx, data := .fields #[.ref t1, .none, .none, .none, .bool false, .none] }) (od := some oD) ⟨hx, rfl, rfl, hoD⟩ T.sa ?_
        refine PySem.OEX.osa_old X hx n1 (nl := hd) (fun y hy => ?_) ?_ hcl (show PySem.HandSPX.refsVE (.ref C :: bm) = true from hbm) rfl hno (fun h' tk' k hn' => ?_)
        · exact Classical.byContradiction fun z => hy (if_neg z)
        · have : all.length = hd.length + (f :: fs).length := by rw [← hall, List.length_append]
          omega
        · obtain ⟨oL, esL, epL, hoL, rL⟩ := hn
          refine step h' tk' dx (fun b o z => k b o (fun y => ?_) (kp b o z)) ⟨oL, esL, epL, k _ _ (Ne.symm s3) hoL, rL⟩ (k _ _ (Ne.symm s2) hx) ?_ s1 s2 s3
          · subst y; exact absurd (Heap.lt_size z) (Nat.not_lt.mpr s1)
          · rw [← hmA _ fun y => rfl]; exact hn'
end
section
open PySem.W PySem.Calls
variable {P : Program} {w : World} {A : Around} {E : Value → Shared → Prop} {K : PySem.W.Frag}
theorem lookup_none_of {α : Type} {y : Str} : ∀ {l : List (Str × α)}, (∀ p ∈ l, p.1 ≠ y) → l.lookup y = none
  | [], _ => rfl
  | (a, b) :: l, h => by
    rw [List.lookup_cons, show (y == a) = false from by simpa using fun z => h _ (List.mem_cons_self ..) z.symm]
    exact lookup_none_of fun p hp => h p (List.mem_cons_of_mem _ hp)
theorem lookup_rev {α : Type} {y : Str} : ∀ {l : List (Str × α)}, (l.map (·.1)).Nodup → l.reverse.lookup y = l.lookup y
  | [], _ => rfl
  | (a, b) :: l, h => by
    rw [List.map_cons, List.nodup_cons] at h
    rw [List.reverse_cons, List.lookup_append, lookup_rev h.2, List.lookup_cons, List.lookup_cons]
    by_cases e : y = a
    · subst e
      rw [lookup_none_of fun p hp z => h.1 (List.mem_map.mpr ⟨p, hp, z⟩)]
      simp
    · rw [show (y == a) = false from by simpa using e]
      cases l.lookup y <;> rfl
/-- super().__init__('..') -/
theorem sup_run {C L fI e t0 : Addr} {fs : List Str} {fd : FuncData} {as : List PySem.Arg} {body bod : List Stmt} {cc cda : Addr} {mg m : Str → Option Value} {Q : Flow → Shared → Prop} {hp : Heap} {g : Array GenState} {dr : Drawn} {t : Nat} {os : OsState} {mm : Str} {j : Nat} {p0 p1 p2 p3 p4 p5 : Pos} (hpos : (p2.endLine == p4.line) = true)
    (T : ExiC P K C fs) (D : IniF P K C fI fs fd as body cc cda) (X : K.In hp) (gl : hp.Ns mainGlobals mg) (hm : mg "super" = none)
    (bl : ∃ mb, hp.Ns builtinsNs mb ∧ ∀ x : Str, x ≠ "__name__" → mb x = bootBuiltins x) (hns : hp.Ns L m) (hself : m "self" = some (.ref e)) (he : hp.get? e = some (PySem.HandSPX.excO C t0))
    (hq : ∀ h' t1 t', (∀ b o, b ≠ e → hp.get? b = some o → h'.get? b = some o) → h'.get? e = some (PySem.HandSPX.excO C t1) → Q .next ⟨h', g, dr, t', os⟩) :
    _root_.PySem.wpAt (model P w) A (.func bod (callEnv fd L fI)) (exec (.Expr (.Call (.Attribute (.Call (.Name "super" p0) [] [] p1) "__init__" p2) [.Constant (.str mm) j p3] [] p4) p5) (callEnv fd L fI)) Q E ⟨hp, g, dr, t, os⟩ := by
  obtain ⟨nm, q, N, bs, bm, sn, sub, ab, col, dd, k0, k1, k2, k3, k5, hC, hbm⟩ := T.oex.cls
  have hcl : clsIn K C = some { name := nm, bases := bs, mro := .ref C :: bm, ns := N, qualname := q, hasDict := true, slotNames := sn, subclasses := sub, abstract := ab, collection := col, hasDel := false } := by unfold clsIn; rw [hC] <;> rfl
  obtain ⟨oc, od, osl, lk⟩ := D.lk
  obtain ⟨oc2, od2, vs2, osl2, file, tf, hcda, hvs, hfile⟩ := D.file
  obtain ⟨oc3, od3, osl3, hcc⟩ := D.cell
  have hpar : (fd.params.posonlyargs ++ fd.params.args).head? = as.head? := by rw [D.par]; rfl
  obtain ⟨ar, as', rfl, har⟩ : ∃ ar as', as = ar :: as' ∧ ar.arg = ("self" : Str) := by
    have := D.nms
    cases as with
    | nil => cases this
    | cons a as' => exact ⟨a, as', rfl, (List.cons.inj this).1⟩
  obtain ⟨oD, hD1, hD2⟩ : ∃ oD, hp.get? C = some oD ∧ oD.data = .cls { name := nm, bases := bs, mro := .ref C :: bm, ns := N, qualname := q, hasDict := true, slotNames := sn, subclasses := sub, abstract := ab, collection := col, hasDel := false } := ⟨_, X _ _ hC, rfl⟩
  obtain ⟨mb, bl1, bl2⟩ := bl
  have hxC : e ≠ C := fun z => by
    have := X _ _ hC
    rw [← z, he] at this
    have y := Option.some.inj this
    have z2 : Value.ref C = Value.type "type" := congrArg Obj.cls y
    cases z2
  have hint : interactive (callEnv fd L fI) = false := by
    unfold interactive
    simp [callEnv, newEnv, D.kind]
  have hcall : eval (.Call (.Attribute (.Call (.Name "super" p0) [] [] p1) "__init__" p2) [.Constant (.str mm) j p3] [] p4) (callEnv fd L fI) = (do
      let ov ← attributeBase (.Call (.Name "super" p0) [] [] p1) "__init__" (callEnv fd L fI) (eval (.Call (.Name "super" p0) [] [] p1) (callEnv fd L fI))
      standAt p2.atName
      let (f, first) ← holding [ov] (getMethod ov "__init__" (do return (← importBound (.Call (.Name "super" p0) [] [] p1) (callEnv fd L fI)).getD true))
      callWith p4 f first (backTo p4 (starEach [.Constant (.str mm) j p3] (callEnv fd L fI))) []) := by
    have e1 : methodCallPos true (.Call (.Name "super" p0) [] [] p1) (callEnv fd L fI) p2 p4 = pure p4 := by
      unfold methodCallPos
      rw [hpos]
      rfl
    show (do
      let ov ← attributeBase (.Call (.Name "super" p0) [] [] p1) "__init__" (callEnv fd L fI) (eval (.Call (.Name "super" p0) [] [] p1) (callEnv fd L fI))
      standAt p2.atName
      let (f, first) ← holding [ov] (getMethod ov "__init__" (do return (← importBound (.Call (.Name "super" p0) [] [] p1) (callEnv fd L fI)).getD true))
      let callPos ← methodCallPos true (.Call (.Name "super" p0) [] [] p1) (callEnv fd L fI) p2 p4
      callWith callPos f first (backTo p4 (starEach [.Constant (.str mm) j p3] (callEnv fd L fI))) []) = _
    rw [e1]
    rfl
  refine ks_wpAt_Expr_any (hi := hint) (ks_wpAt_MethodCall (he := hcall) ?_)
  refine ks_wpAt_super_base (env := callEnv fd L fI) (f := fI) (cc := cda) (ar := ar) D.s1 D.s2 (by decide) rfl (X _ _ lk) rfl (hpar.trans rfl) D.code (X _ _ hcda) rfl hvs hfile T.top ?_
  refine ks_loadName_global D.kind D.s1 (loadGlobal_builtin (by show hp.Ns fd.globals _; rw [D.glo]; exact gl) hm (by show hp.Ns fd.builtins _; rw [D.blt]; exact bl1) ((bl2 _ (by decide)).trans (by first | rfl | decide +kernel)) ⟨rfl, ?_⟩)
  refine wpAny_loadName_free D.kind D.s2 (by show fd.closure.lookup _ = _; rw [D.clo]; rfl) ⟨_, X _ _ hcc, rfl⟩ ?_
  rw [har]
  refine wpAny_loadName_local D.kind (D.s3 _ (List.mem_cons_self ..)).1 hns hself ?_
  refine ks_wpAny_isType_cls hD1 hD2 ⟨rfl, ?_⟩
  refine ks_wpAny_call_super hD1 hD2 he rfl (fun c z => by cases z) (looks_mroIn X T.sC) (fun h2 e2 k2 => ?_)
  have X2 := X.keeps k2
  have he2 := k2 _ _ he
  have hI : Looks (model P w) h2 (isInstance (.ref e) (.type "ValueError")) true := (InstAt.type (od := none) ⟨he2, rfl, rfl, trivial⟩).andThen (looks_subIn X2 T.sB)
  have hsup := T.sup
  unfold ks_superIn at hsup
  rw [hcl] at hsup
  refine kxs_getMethod kxs_ValueError e2 (looks_opaque X2 T.any) (l₀ := .ref C :: bm) ((looks_clsIn X2 hcl).andThen .now) rfl X2 hsup hI hxC (by decide) ?_
  have k3 : ∀ b o, h2.get? b = some o → (h2.push (kxs_mw "ValueError.__init__" e)).get? b = some o := fun b o z => Heap.get?_push_of_some _ z
  have X3 := X2.keeps k3
  refine kxs_callWith (i := "ValueError.__init__") (x := e) rfl ?_
  show wpAny _ _ (evalArgs _ true [(false, eval (.Constant (.str mm) j p3) (callEnv fd L fI))] []) _ _ _
  refine evalArgs_plain (spliced_cons (wpAny_Constant_str (spliced_nil ⟨Heap.get?_push_at rfl rfl, ?_⟩)))
  refine call_mw (X3 _ _ hC) (k3 _ _ he2) (Heap.get?_push_at rfl rfl) (by rw [sizeLine_eq]; exact (by decide : 1 ≤ 16777216)) fun h' t1 k he' => ?_
  exact hq h' t1 _ (fun b o hb z => k b o hb (k3 _ _ (k2 _ _ z))) he'
/-- X(e, ..): the exception and its dict -/
theorem exi_run {C : Addr} {fs : List Str} {mg : Str → Option Value} {us : List Value} {Q : Value → Shared → Prop} {hp : Heap} {g : Array GenState} {dr : Drawn} {t : Nat} {os : OsState} (T : ExiC P K C fs) (X : K.In hp) (gl : hp.Ns mainGlobals mg) (hm : mg "super" = none)
    (bl : ∃ mb, hp.Ns builtinsNs mb ∧ ∀ x : Str, x ≠ "__name__" → mb x = bootBuiltins x) (lim : hp.NoLimit) (hr : Room 1 A) (hl : us.length = fs.length)
    (hq : ∀ h' e dx t1 t', (∀ b o, hp.get? b = some o → h'.get? b = some o) → hp.objs.size ≤ e → h'.get? e = some { cls := .ref C, dict := some dx, data := .fields #[.ref t1, .none, .none, .none, .bool false, .none] } → (∃ mA, h'.Ns1 dx mA ∧ ∀ y, mA y = (fs.zip us).lookup y) →
      hp.objs.size ≤ dx → dx ≠ e → Q (.ref e) ⟨h', g, dr, t', os⟩) :
    wpAny (model P w) A (call (.ref C) us) Q E ⟨hp, g, dr, t, os⟩ := by
  obtain ⟨nm, q, N, bs, bm, sn, sub, ab, col, dd, k0, k1, k2, k3, k5, hC, hbm⟩ := T.oex.cls
  have hcl : clsIn K C = some { name := nm, bases := bs, mro := .ref C :: bm, ns := N, qualname := q, hasDict := true, slotNames := sn, subclasses := sub, abstract := ab, collection := col, hasDel := false } := by unfold clsIn; rw [hC] <;> rfl
  obtain ⟨fI, fd, as, body, cc, cda, fnd, fty, D⟩ := T.ini
  obtain ⟨oc, od, osl, lk⟩ := D.lk
  have hus : us.length ≤ sizeLine := by rw [hl, sizeLine_eq]; have := T.sz; omega
  have kk : ∀ b o, hp.get? b = some o → ((hp.push (kdv_tup us)).push (PySem.HandSPX.excO C hp.objs.size)).get? b = some o := fun b o e => Heap.get?_push_of_some _ (Heap.get?_push_of_some _ e)
  have hget : ((hp.push (kdv_tup us)).push (PySem.HandSPX.excO C hp.objs.size)).get? (hp.objs.size + 1) = some (PySem.HandSPX.excO C hp.objs.size) := by heap_get
  have X2 := X.keeps kk
  have nlen : (as.map (·.arg)).length = (Value.ref (hp.objs.size + 1) :: us).length := by rw [D.nms]; simp [hl]
  have hbind : bindArgs fd ⟨Value.ref (hp.objs.size + 1) :: us, []⟩ = pure ((("self" : Str) :: fs).zip (Value.ref (hp.objs.size + 1) :: us)) := by
    have := bind_plain D.par D.dfl (by rw [D.nms]; exact T.nd) (Value.ref (hp.objs.size + 1) :: us) nlen.symm
    rw [D.nms] at this
    exact this
  refine wpAny_call (PySem.HandSPX.call_own F.excBase_ValueError (fun Y => PySem.HandSPX.refsVE_contains Y bm hbm) (X _ _ hC) (looks_findIn X fnd) (fun self => bind_fn X self fty) hus ?_)
  refine ks_codeAny_call_defAt (fd := fd) (body := body) (binds := (("self" : Str) :: fs).zip (Value.ref (hp.objs.size + 1) :: us)) (hr.make (k := 0) C us []).depth (X2 _ _ lk) rfl (lim.keeps kk) (by rw [D.code]; exact codeRec_of X2 D.crec) D.bod (BindsTo.of_eq hbind) D.s4 (fun y hy => (D.s3 _ (List.of_mem_zip hy).1).1) (fun h₁ hns hk₁ => ?_) D.co D.gen D.kind
  obtain ⟨m, j, p0, p1, p2, p3, p4, p5, r, rfl, hpos, hr2⟩ := isInit_ok D.ini
  have hsz : ((hp.push (kdv_tup us)).push (PySem.HandSPX.excO C hp.objs.size)).objs.size = hp.objs.size + 2 := by rw [Heap.size_push, Heap.size_push]
  have k1 : ∀ b o, hp.get? b = some o → h₁.get? b = some o := fun b o e => hk₁ b o (kk b o e)
  have X3 := X.keeps k1
  have he1 := hk₁ _ _ hget
  have hbl : us.length = fs.length := hl
  have zmap : ((("self" : Str) :: fs).zip (Value.ref (hp.objs.size + 1) :: us)).map (·.1) = ("self" : Str) :: fs := by
    rw [List.map_fst_zip]; simp [hl]
  have hmm : (fun x => List.lookup x (((("self" : Str) :: fs).zip (Value.ref (hp.objs.size + 1) :: us)).reverse)) = fun x => List.lookup x ((("self" : Str) :: fs).zip (Value.ref (hp.objs.size + 1) :: us)) := by
    funext x
    exact lookup_rev (by rw [zmap]; exact T.nd)
  rw [hmm] at hns
  have hself : (fun x => List.lookup x ((("self" : Str) :: fs).zip (Value.ref (hp.objs.size + 1) :: us))) "self" = some (.ref (hp.objs.size + 1)) := by simp
  have hLe : ((hp.push (kdv_tup us)).push (PySem.HandSPX.excO C hp.objs.size)).objs.size ≠ hp.objs.size + 1 := by rw [hsz]; omega
  obtain ⟨mb, bl1, bl2⟩ := bl
  refine ks_wpAt_execs_cons (sup_run hpos T D X3 (gl.keeps k1) hm ⟨mb, bl1.keeps k1, bl2⟩ hns hself he1 fun h2 t1 t2 k2 he2 => ?_)
  refine wpAt_of_wpAny ?_
  have k20 : ∀ b o, hp.get? b = some o → h2.get? b = some o := fun b o z => k2 b o (fun y => absurd (Heap.lt_size z) (by rw [y]; exact Nat.not_lt.mpr (Nat.le_succ _))) (k1 b o z)
  refine asgs_run (h0 := hp) (env := callEnv fd ((hp.push (kdv_tup us)).push (PySem.HandSPX.excO C hp.objs.size)).objs.size fI) (e := hp.objs.size + 1) (m := fun x => List.lookup x (((("self" : Str)) :: fs).zip (Value.ref (hp.objs.size + 1) :: us))) (all := fs) T.oex X D.kind rfl (Nat.le_succ _) hLe hself (D.s3 _ (List.mem_cons_self ..)).1 T.sz fs r [] h2 t2 none t1 hr2 rfl T.ne (fun f hf => ?_) k20 ?_ he2 (.inl ⟨rfl, rfl⟩) (fun h' dx t' k3 e3 n3 s1 s2 => ?_)
  · have h1 := D.s3 f (List.mem_cons_of_mem _ hf)
    have hne : f ≠ ("self" : Str) := fun z => (List.nodup_cons.mp T.nd).1 (z ▸ hf)
    refine ⟨?_, h1.1, h1.2, T.no f hf⟩
    have := lookup_zip_isSome (ns := ("self" : Str) :: fs) (us := Value.ref (hp.objs.size + 1) :: us) (List.mem_cons_of_mem _ hf) (by simp [hl])
    exact Option.isSome_iff_exists.mp this
  · obtain ⟨oL, esL, epL, hoL, rL⟩ := hns
    exact ⟨oL, esL, epL, k2 _ _ hLe hoL, rL⟩
  · refine ⟨rfl, hq h' _ dx t1 t' k3 (Nat.le_succ _) e3 ⟨_, n3, fun y => ?_⟩ s1 s2⟩
    by_cases hy : y ∈ fs
    · rw [if_pos hy]
      have hne : y ≠ ("self" : Str) := fun z => (List.nodup_cons.mp T.nd).1 (z ▸ hy)
      show List.lookup y ((("self" : Str) :: fs).zip (Value.ref (hp.objs.size + 1) :: us)) = _
      rw [List.zip_cons_cons, List.lookup_cons, show (y == ("self" : Str)) = false from by simpa using hne]
    · rw [if_neg hy]
      exact (lookup_none_of fun p hp z => hy (by rw [← z]; exact (List.of_mem_zip hp).1)).symm
end
end Py
set_option Elab.async false
set_option linter.all false
set_option maxRecDepth 100000
set_option maxHeartbeats 4000000
/-! PyN: attributes, displays, builtins. -/
namespace Py
open PySem PySem.Spec L2 PySem.SeqAt PyProof.Rows
section
variable {X : Cx} {cls : Nm} {B : Base} {Wx : WX} {C : Cfg}
theorem base_ok {e : Ex} {f : Str} (h : isCall e = false) : attributeBase e f X.env (eval e X.env) = eval e X.env := by
  unfold attributeBase
  split
  · exact absurd h (by simp [isCall])
  · rfl
theorem star_cons {e : Ex} {es : List Ex} {env : PySem.Env} (h : isStar e = false) : starEach (e :: es) env = (false, eval e env) :: starEach es env := by
  cases e <;> first | rfl | cases h
theorem star_all {es : List Ex} {env : PySem.Env} (h : es.any isStar = false) : starEach es env = es.map fun e => (false, eval e env) := by
  induction es with
  | nil => rfl
  | cons e es ih =>
    rw [List.any_cons, Bool.or_eq_false_iff] at h
    rw [star_cons h.1, ih h.2, List.map_cons]
theorem back_plain {es : List Ex} {env : PySem.Env} {pos : Pos} (h : es.any isStar = false) : backTo pos (starEach es env) = es.map fun e => (false, eval e env) := by
  rw [star_all h]
  unfold backTo
  rw [List.map_map]
  rfl
theorem back_any {es : List Ex} {env : PySem.Env} {pos : Pos} (h : es.any isStar = false) : (backTo pos (starEach es env)).any (·.1) = false := by
  rw [back_plain h, List.any_map]
  simp
/-- expressions, one by one -/
def Goods (X : Cx) (cls : Nm) (Wx : WX) (C : Cfg) : List Ex → List E → Prop
  | [], [] => True
  | e :: es, e' :: es' => Good X cls Wx C e e' ∧ Goods X cls Wx C es es'
  | _, _ => False
theorem pa_es : ∀ {es : List Ex} {es' : List E}, es.any isStar = false → Goods X cls Wx C es es' → PA X es (fun σ H Q => tM (zd X cls) Wx (pL (zd X cls)) (denEs C es') σ H Q)
  | [], [], _, _ => pa_nil.mono fun σ H Q ⟨B, F, ρ, O, s, h⟩ => (show Run (zd X cls) B Wx (pL (zd X cls)) (M.ret []) σ F H ρ O Q from h).ret s .nil
  | e :: es, e' :: es', hs, g => by
    rw [List.any_cons, Bool.or_eq_false_iff] at hs
    refine (pa_cons g.1.fz (pa_es hs.2 g.2) (star_cons hs.1)).mono fun σ H Q ⟨B, F, ρ, O, s, h⟩ => ?_
    have h' : Run (zd X cls) B Wx (pL (zd X cls)) (M.bnd (fzM (den C e')) fun d => M.bnd (denEs C es') fun ds => M.ret (d :: ds)) σ F H ρ O Q := h
    exact ⟨B, F, ρ, O, s, h'.seq (early_L _) fun x v F1 H1 ρ1 O1 _ st p1 h2 => ⟨B, F1, ρ1, O1, st.sx, h2.seq (early_L _) fun xs vs F2 H2 ρ2 O2 _ st2 p2 h3 => h3.ret st2.sx (.cons (Rp.mono st2.ff p1) p2)⟩⟩
  | [], _ :: _, _, g => g.elim
  | _ :: _, [], _, g => g.elim
/-- operands -/
def pOs (Z : Wd) (σ : Sg) : List E → Rl (List D) (List VV)
  | [], _, _, _, _, vs, ds => vs = [] ∧ ds = []
  | e :: es, F, H, G, ρ, vs, ds => ∃ v vr d dr, vs = v :: vr ∧ ds = d :: dr ∧ pO Z σ e F H G ρ v d ∧ pOs Z σ es F H G ρ vr dr
theorem pO.mono {Z : Wd} {σ : Sg} {e : E} {F F' H G : Hp} {ρ : Env} {H' G' : Hp} {ρ' : Env} {v : VV} {d : D} (p : pO Z σ e F H G ρ v d) (f : Sub F F') : pO Z σ e F' H' G' ρ' v d := by
  unfold pO at p ⊢
  cases q : isVar e with
  | none => rw [q] at p; exact Rp.mono f p
  | some i => rw [q] at p; exact p
theorem early_Os (Z : Wd) (σ : Sg) : ∀ es : List E, Early (pOs Z σ es)
  | [] => fun _ _ _ _ _ _ _ _ h => h
  | e :: es => fun F' H' H H1 ρ' b a t ⟨v, vr, d, dr, h1, h2, h3, h4⟩ => ⟨v, vr, d, dr, h1, h2, h3, early_Os Z σ es _ _ _ _ _ _ _ t h4⟩
theorem pOs.re {Z : Wd} {σ : Sg} {F : Hp} : ∀ {es : List E} {H G H' G' : Hp} {ρ ρ' : Env} {vs : List VV} {ds : List D}, pOs Z σ es F H G ρ vs ds → pOs Z σ es F H' G' ρ' vs ds
  | [], _, _, _, _, _, _, _, _, h => h
  | _ :: _, _, _, _, _, _, _, _, _, ⟨v, vr, d, dr, h1, h2, h3, h4⟩ => ⟨v, vr, d, dr, h1, h2, h3.mono Sub.rfl, pOs.re h4⟩
theorem pOs.sh {Z : Wd} {σ : Sg} {F H : Hp} {ρ : Env} {O : List Addr} (s : Sx Z B F H σ ρ O) : ∀ {es : List E} {F1 H1 G1 : Hp} {ρ1 : Env} {vs : List VV} {ds ds' : List D}, pOs Z σ es F1 H1 G1 ρ1 vs ds → Sub F1 F → finAll es ds ρ = some ds' → ShL Z F H vs ds'
  | [], _, _, _, _, _, _, _, ⟨rfl, rfl⟩, _, h => by cases h; exact .nil
  | e :: es, F1, H1, G1, ρ1, _, _, ds', ⟨v, vr, d, dr, rfl, rfl, p, ps⟩, f, h => by
    have h' : (match fin e d ρ, finAll es dr ρ with | some x, some xs => some (x :: xs) | _, _ => none) = some ds' := h
    cases e1 : fin e d ρ with
    | none => rw [e1] at h'; cases h'
    | some x =>
      cases e2 : finAll es dr ρ with
      | none => rw [e1, e2] at h'; cases h'
      | some xs =>
        rw [e1, e2] at h'
        cases h'
        exact .cons (p.sh s f e1) (pOs.sh s ps f e2)
theorem pa_os : ∀ {es : List Ex} {es' : List E}, es.any isStar = false → Goods X cls Wx C es es' → PA X es (fun σ H Q => tM (zd X cls) Wx (pOs (zd X cls) σ es') (denOs C es') σ H Q)
  | [], [], _, _ => pa_nil.mono fun σ H Q ⟨B, F, ρ, O, s, h⟩ => (show Run (zd X cls) B Wx (pOs (zd X cls) σ []) (M.ret []) σ F H ρ O Q from h).ret s ⟨rfl, rfl⟩
  | e :: es, e' :: es', hs, g => by
    rw [List.any_cons, Bool.or_eq_false_iff] at hs
    refine (pa_cons g.1.op (pa_os hs.2 g.2) (star_cons hs.1)).mono fun σ H Q ⟨B, F, ρ, O, s, h⟩ => ?_
    have h' : Run (zd X cls) B Wx (pOs (zd X cls) σ (e' :: es')) (M.bnd (opd e' (den C e')) fun d => M.bnd (denOs C es') fun ds => M.ret (d :: ds)) σ F H ρ O Q := h
    exact ⟨B, F, ρ, O, s, h'.seq (early_Os _ _ _) fun x v F1 H1 ρ1 O1 _ st p1 h2 => ⟨B, F1, ρ1, O1, st.sx, h2.seq (early_Os _ _ _) fun xs vs F2 H2 ρ2 O2 _ st2 p2 h3 => h3.ret st2.sx ⟨v, vs, x, xs, rfl, rfl, p1.mono st2.ff, p2.re⟩⟩⟩
  | [], _ :: _, _, g => g.elim
  | _ :: _, [], _, g => g.elim
/-! ### displays -/
theorem big1000 {n : Nat} (h : n ≤ 1000) : n ≤ sizeLine := Nat.le_trans h (by decide)
theorem g_tup {es : List Ex} {es' : List E} {k : Nat} {p : Pos} (hs : es.any isStar = false) (g : Goods X cls Wx C es es') : Good X cls Wx C (.Tuple es k p) (.tup es') := by
  have pe : PE X (.Tuple es k p) (tE X cls Wx (den C (.tup es'))) := by
    refine (pe_tup (pa_es hs g)).mono fun σ H Q h => ?_
    obtain ⟨B, F, ρ, O, s, h1⟩ := (show tE X cls Wx (M.bnd (denEs C es') fun ds => if ds.length ≤ 1000 then M.ret (.val (.tup ds)) else M.stuck) σ H Q from h)
    refine ⟨B, F, ρ, O, s, h1.seq (early_W _) fun xs vs F1 H1 ρ1 O1 _ st p1 h2 => ?_⟩
    obtain ⟨hl, h3⟩ := h2.iff_
    have af := h3.after st.sx
    exact ⟨big1000 (by rw [RpL.length p1]; exact hl), fun q hq => After.new_tup st.sx.fh af p1 hq⟩
  exact ⟨pe, pt_of pe (by intro _; rfl), fun i h => by cases h⟩
theorem g_lst {es : List Ex} {es' : List E} {p : Pos} (hs : es.any isStar = false) (g : Goods X cls Wx C es es') : Good X cls Wx C (.List es p) (.lst es') := by
  have pe : PE X (.List es p) (tE X cls Wx (den C (.lst es'))) := by
    refine (pe_lst (pa_es hs g)).mono fun σ H Q h => ?_
    obtain ⟨B, F, ρ, O, s, h1⟩ := (show tE X cls Wx (M.bnd (denEs C es') fun ds => if ds.length ≤ 1000 then M.ret (.own (.lst ds)) else M.stuck) σ H Q from h)
    refine ⟨B, F, ρ, O, s, h1.seq (early_W _) fun xs vs F1 H1 ρ1 O1 _ st p1 h2 => ?_⟩
    obtain ⟨hl, h3⟩ := h2.iff_
    have af := h3.after st.sx
    exact ⟨big1000 (by rw [RpL.length p1]; exact hl), fun q hq => After.own_lst st.sx.fh af p1 hq⟩
  exact ⟨pe, pt_of pe (by intro _; rfl), fun i h => by cases h⟩
/-! ### attributes -/
theorem lk_zip {Z : Wd} {F : Hp} {f : Str} {d : D} : ∀ {fs : List Str} {vs : List VV} {ds : List D}, RpL Z F vs ds → (fs.zip ds).lookup f = some d → ∃ v, (fs.zip vs).lookup f = some v ∧ Rp Z F v d
  | [], _, _, _, h => by simp at h
  | _ :: _, _, _, .nil, h => by simp at h
  | g :: fs, _, _, .cons (v := v) r l, h => by
    rw [List.zip_cons_cons, List.lookup_cons] at h ⊢
    by_cases e : (f == g) = true
    · rw [e] at h ⊢; cases h; exact ⟨v, rfl, r⟩
    · rw [Bool.not_eq_true] at e
      rw [e] at h ⊢
      exact lk_zip l h
theorem zip_mem {f : Str} {d : D} : ∀ {fs : List Str} {ds : List D}, (fs.zip ds).lookup f = some d → f ∈ fs
  | [], _, h => by simp at h
  | _ :: _, [], h => by simp at h
  | g :: fs, x :: ds, h => by
    rw [List.zip_cons_cons, List.lookup_cons] at h
    by_cases e : (f == g) = true
    · rw [beq_iff_eq.mp e]; exact List.mem_cons_self ..
    · rw [Bool.not_eq_true] at e
      rw [e] at h
      exact List.mem_cons_of_mem _ (zip_mem h)
theorem Sh.excD {Z : Wd} {F H : Hp} {v : VV} {c : Nat} {fs : List Str} {ds : List D} (h : Sh Z F H v (.exc c fs ds)) (s : Sub F H) : ∃ a dd, v = .ref a ∧ H a = some (ExD (Z.cls c) dd a) ∧ ((dd = none ∧ fs = []) ∨ ∃ d vs, dd = some d ∧ H d = some (.xd (fs.zip vs)) ∧ RpL Z F vs ds) := by
  rcases h with h | ⟨p, fp, o, _, w, e⟩
  · cases h with
    | exc q => exact ⟨_, none, rfl, s _ _ q, .inl ⟨rfl, rfl⟩⟩
    | exd q q2 _ l => exact ⟨_, _, rfl, s _ _ q, .inr ⟨_, _, rfl, s _ _ q2, l⟩⟩
  · cases o <;> cases e
/-- e.f, of an instance or of an exception -/
def rFx (K : PySem.W.Frag) (f : Str) (x : VV) (H1 : Hp) (Q : VK) : Prop := (∃ a C dx fs v, x = .ref a ∧ H1 a = some (.ins C dx fs) ∧ Cls K C ∧ NoAttr K C f ∧ fs.lookup f = some v ∧ Q v H1) ∨
  ∃ a C d fs v, x = .ref a ∧ H1 a = some (ExD C (some d) a) ∧ H1 d = some (.xd fs) ∧ XfC K C ∧ NoAttr K C f ∧ fs.lookup f = some v ∧ Q v H1
theorem pe_fldX {e : Ex} {f : Str} {pos : Pos} {ta : TE} (he : PE X e ta) (hb : attributeBase e f X.env (eval e X.env) = eval e X.env) : PE X (.Attribute e f pos) (fun σ H Q => ta σ H fun x H1 => rFx X.K f x H1 Q) := by
  refine ⟨fun pins s σ H Q I h => ?_⟩
  refine attr_of hb (thn (he.run pins s σ H _ I h) fun u s1 ⟨x, H1, I1, rx, hh⟩ => ?_)
  rcases hh with ⟨a, C, dx, fs, v, ex, ea, c, n, l, q⟩ | ⟨a, C, d, fs, v, ex, ea, ed, T, n, l, q⟩
  · subst ex
    obtain rfl : u = Value.ref a := rx
    exact getattr_ok I1 ea c n l fun u' s2 I2 ru => ⟨v, H1, I2, ru, q⟩
  · subst ex
    obtain rfl : u = Value.ref a := rx
    obtain ⟨⟨oe, vs, ha, hz, hd⟩, _, _⟩ := I1.hok a _ ea
    have hx : ObjOk X.prog X.w H1 s1.heap d (.xd fs) := I1.hok d _ ed
    obtain ⟨mA, hns, hr⟩ := hx
    obtain ⟨od, ho, hl⟩ := lookIn_ns hns
    obtain ⟨u, hu, ru⟩ := RelO.some_of (v := v) (o := mA f) (by rw [← l]; exact hr f)
    have J : PySem.W.InstAt s1.heap a oe C (some od) := ⟨ha, hz.1, by unfold PySem.W.notCls; rw [hd] <;> rfl, by rw [hz.2]; exact ho⟩
    exact HandSPX.exc_get I1.kIn J T.ga T.gg T.exC (PySem.W.findObj_own T.hdC n rfl (by rw [hl, hu])) (handed_of ru) ⟨v, H1, I1.tok _, ru, q⟩
theorem g_attr {a : Ex} {a' : E} {f : Str} {p : Pos} (hc : isCall a = false) (hf : ∀ c, C.flds c f = true → Cls X.K (cls c) ∧ NoAttr X.K (cls c) f) (hx : ∀ c fs, C.xfl c = some fs → f ∈ fs → XfC X.K (cls c) ∧ NoAttr X.K (cls c) f) (ga : Good X cls Wx C a a') : Good X cls Wx C (.Attribute a f p) (.attr a' f) := by
  have pe : PE X (.Attribute a f p) (tE X cls Wx (den C (.attr a' f))) := by
    refine (pe_fldX ga.op (base_ok hc)).mono fun σ H Q h => ?_
    have h' : tE X cls Wx (M.bnd (opd a' (den C a')) fun x => fin1 a' x fun x => valM (attrD C.flds C.xfl x f)) σ H Q := h
    exact s_op1 (r := rFx X.K f) (fun B F H ρ O x d Q s hx' h => by
      obtain ⟨w, e1, af⟩ := h.valM s
      cases d with
      | ins c fs ds =>
        obtain ⟨z, e2⟩ := ite_some (show (if C.flds c f = true then (fs.zip ds).lookup f else none) = some w from e1)
        obtain ⟨a0, dx, vs, rfl, ha, hl, l⟩ := hx'.ins s.fh
        obtain ⟨v, hv, r⟩ := lk_zip l e2
        exact .inl ⟨a0, _, dx, _, v, rfl, ha, (hf c z).1, (hf c z).2, hv, af.val s.fh r⟩
      | exc c fs ds =>
        have e3 : (if C.xfl c = some fs then (fs.zip ds).lookup f else none) = some w := e1
        obtain ⟨z, e2⟩ : C.xfl c = some fs ∧ (fs.zip ds).lookup f = some w := by
          by_cases z : C.xfl c = some fs
          · rw [if_pos z] at e3; exact ⟨z, e3⟩
          · rw [if_neg z] at e3; cases e3
        obtain ⟨a0, dd, rfl, ha, hk⟩ := hx'.excD s.fh
        rcases hk with ⟨_, rfl⟩ | ⟨d, vs, rfl, hd, l⟩
        · simp at e2
        · obtain ⟨v, hv, r⟩ := lk_zip l e2
          have y := hx c fs z (zip_mem e2)
          exact .inr ⟨a0, _, d, _, v, rfl, ha, hd, y.1, y.2, hv, af.val s.fh r⟩
      | _ => cases e1) h'
  exact ⟨pe, pt_of pe (by intro _; rfl), fun i h => by cases h⟩
/-! ### builtins -/
theorem ld_bi {x : Str} {b : BI} (h : biOf x = some b) : bootBuiltins x = some (biV b) := by
  unfold biOf at h
  repeat' split at h
  all_goals first
    | (cases h; subst_vars; decide +kernel)
    | cases h
theorem okN_of {x : Str} (h : okN x = true) : x ≠ "__name__" ∧ (x == ("__debug__" : Str)) = false ∧ (x == ("__classdict__" : Str)) = false := by
  unfold okN at h
  simp only [Bool.and_eq_true, Bool.not_eq_true'] at h
  exact ⟨fun z => by rw [z] at h; simp at h, h.1.1, h.1.2⟩
theorem g_bi (hK : (X.K.lookup sysModules).isSome = true) (hc : X.calm = true) (hg : X.A.guards = some []) (hu : X.A.units + 180 < cLine) {x : Str} {p1 p : Pos} {b : BI} {e : Ex} {es : List Ex} {es' : List E} (hb : biOf x = some b) (ok : okN x = true) (gl : Gl X x) (hm : X.mg x = none)
    (hs : (e :: es).any isStar = false) (g : Goods X cls Wx C (e :: es) es') : Good X cls Wx C (.Call (.Name x p1) (e :: es) [] p) (.bi b es') := by
  obtain ⟨o1, o2, o3⟩ := okN_of ok
  have hs' := hs
  rw [List.any_cons, Bool.or_eq_false_iff] at hs'
  have pe : PE X (.Call (.Name x p1) (e :: es) [] p) (tE X cls Wx (den C (.bi b es'))) := by
    have rule : PE X (.Call (.Name x p1) (e :: es) [] p) (tCB (rBI (zd X cls) b) fun σ H Q => tM (zd X cls) Wx (pOs (zd X cls) σ es') (denOs C es') σ H Q) := by
      have hv := ld_bi hb
      have cr := cr_bi (cls := cls) hK hc hg hu b
      cases hq : biV b with
      | builtin id => rw [hq] at hv cr; exact pe_callB cr gl hm hv (pa_os hs g) o1 o2 (star_cons hs'.1) (back_any hs'.2)
      | type T => rw [hq] at hv cr; exact pe_callTy cr gl hm hv (pa_os hs g) o1 o2 (star_cons hs'.1) (back_any hs'.2)
      | _ => cases b <;> cases hq
    refine rule.mono fun σ H Q h => ?_
    obtain ⟨B, F, ρ, O, s, h1⟩ := (show tE X cls Wx (M.bnd (denOs C es') fun ds => fun ρ => match finAll es' ds ρ with | some ds => newM (biD b ds) ρ | none => none) σ H Q from h)
    refine ⟨B, F, ρ, O, s, h1.seq (early_W _) fun xs vs F1 H1 ρ1 O1 _ st p1 h2 => ?_⟩
    obtain ⟨r, ρ', hm2, en⟩ := h2
    cases q : finAll es' xs ρ1 with
    | none => simp only [q] at hm2; cases hm2
    | some ds =>
      simp only [q] at hm2
      obtain ⟨w, e2, af⟩ := Run.newM st.sx (Wx := Wx) (Q := Q) ⟨r, ρ', hm2, en⟩
      exact ⟨F1, ds, w, st.sx.fh, pOs.sh st.sx p1 Sub.rfl q, e2, af⟩
  exact ⟨pe, pt_of pe (by intro _; rfl), fun i h => by cases h⟩
theorem ld_ty {x : Str} {t : Ty} (h : tyOf x = some t) : bootBuiltins x = some (.type (tyN t)) := by
  unfold tyOf at h
  repeat' split at h
  all_goals first
    | (cases h; subst_vars; decide +kernel)
    | cases h
theorem g_isi {y : Str} {p1 p2 p : Pos} {t : Ty} {e : Ex} {e' : E} (ht : tyOf y = some t) (gi : Gl X "isinstance") (mi : X.mg "isinstance" = none) (oky : okN y = true) (gy : Gl X y) (my : X.mg y = none) (hs : isStar e = false) (g : Good X cls Wx C e e') :
    Good X cls Wx C (.Call (.Name "isinstance" p1) [e, .Name y p2] [] p) (.isi e' t) := by
  obtain ⟨o1, o2, o3⟩ := okN_of oky
  have pe : PE X (.Call (.Name "isinstance" p1) [e, .Name y p2] [] p) (tE X cls Wx (den C (.isi e' t))) := by
    have pn : PE X (.Name y p2) (tC (.ty (tyN t))) := pe_bltn gy my (ld_ty ht) rfl o1 o2
    refine (pe_callB (cr_isi (cls := cls) t) gi mi boot_isinstance (pa_cons g.op (pa_cons pn pa_nil rfl) (star_cons hs)) (by decide) (by decide) (star_cons hs) (by rfl)).mono fun σ H Q h => ?_
    obtain ⟨B, F, ρ, O, s, h1⟩ := (show tE X cls Wx (M.bnd (opd e' (den C e')) fun x => fin1 e' x fun x => blM (isiD t x)) σ H Q from h)
    refine ⟨B, F, ρ, O, s, h1.seq (early_W _) fun x v F1 H1 ρ1 O1 _ st p1 h2 => ?_⟩
    obtain ⟨x', e1, h3⟩ := h2.fin1
    obtain ⟨w, e2, q⟩ := h3.blM st.sx
    exact ⟨F1, v, x', w, rfl, st.sx.fh, p1.sh st.sx Sub.rfl e1, e2, q⟩
  exact ⟨pe, pt_of pe (by intro _; rfl), fun i h => by cases h⟩
end
end Py
set_option Elab.async false
set_option linter.all false
set_option maxRecDepth 100000
set_option maxHeartbeats 4000000
/-! PyNs: displays with starred items. -/
namespace Py
open PySem PySem.Spec L2 PySem.SeqAt PyProof.Rows
section
variable {X : Cx} {cls : Nm} {Wx : WX} {C : Cfg} {f : Ex → E}
theorem trX_not {e : Ex} (h : isStar e = false) : trX f e = f e := by
  cases e <;> first | rfl | cases h
theorem pa_xs (ih : ∀ e, Good X cls Wx C e (f e)) : ∀ es : List Ex, PA X es (fun σ H Q => tM (zd X cls) Wx (pL (zd X cls)) (denXs C (es.map (trX f)) (es.map isStar)) σ H Q)
  | [] => pa_nil.mono fun σ H Q ⟨B, F, ρ, O, s, h⟩ => (show Run (zd X cls) B Wx (pL (zd X cls)) (M.ret []) σ F H ρ O Q from h).ret s .nil
  | e :: es => by
    by_cases he : isStar e = true
    · cases e with
      | Starred e p =>
        refine (StX.pa_star (ih e).fz (pa_xs ih es) rfl).mono fun σ H Q ⟨B, F, ρ, O, s, h⟩ => ?_
        have h' : Run (zd X cls) B Wx (pL (zd X cls)) (M.bnd (fzM (den C (f e))) fun d => M.bnd (M.lift (seqD d)) fun xs => M.bnd (denXs C (es.map (trX f)) (es.map isStar)) fun ds => M.ret (xs ++ ds)) σ F H ρ O Q := h
        refine ⟨B, F, ρ, O, s, h'.seq (early_L _) fun x v F1 H1 ρ1 O1 _ st p1 h2 => ?_⟩
        obtain ⟨xs, e1, h3⟩ := h2.lift
        have key : ∃ (a : Addr) (vs : List VV), v = .ref a ∧ (SqT X.K H1 a vs ∨ SqL X.K H1 a vs) ∧ RpL (zd X cls) F1 vs xs := by
          cases x with
          | tup ds =>
            cases e1
            obtain ⟨a, vs, e2, q, l⟩ := Sh.tup (.inl p1) st.sx.fh
            exact ⟨a, vs, e2, .inl q, l⟩
          | lst ds =>
            cases e1
            obtain ⟨a, vs, e2, q, l⟩ := Sh.lst (.inl p1) st.sx.fh
            exact ⟨a, vs, e2, .inr (SqL.of q), l⟩
          | _ => cases e1
        obtain ⟨a, vs, e2, q, l⟩ := key
        exact ⟨a, vs, e2, q, B, F1, ρ1, O1, st.sx, h3.seq (early_L _) fun ys ws F2 H2 ρ2 O2 _ st2 p2 h4 => h4.ret st2.sx ((l.mono st2.ff).app p2)⟩
      | _ => cases he
    · rw [Bool.not_eq_true] at he
      refine (pa_cons (ih e).fz (pa_xs ih es) (star_cons he)).mono fun σ H Q ⟨B, F, ρ, O, s, h⟩ => ?_
      have h1 : Run (zd X cls) B Wx (pL (zd X cls)) (denXs C ((e :: es).map (trX f)) ((e :: es).map isStar)) σ F H ρ O Q := h
      rw [List.map_cons, List.map_cons, trX_not he, he] at h1
      have h' : Run (zd X cls) B Wx (pL (zd X cls)) (M.bnd (fzM (den C (f e))) fun d => M.bnd (M.lift (starD false d)) fun xs => M.bnd (denXs C (es.map (trX f)) (es.map isStar)) fun ds => M.ret (xs ++ ds)) σ F H ρ O Q := h1
      refine ⟨B, F, ρ, O, s, h'.seq (early_L _) fun x v F1 H1 ρ1 O1 _ st p1 h2 => ?_⟩
      obtain ⟨xs, e1, h3⟩ := h2.lift
      cases e1
      exact ⟨B, F1, ρ1, O1, st.sx, h3.seq (early_L _) fun ys ws F2 H2 ρ2 O2 _ st2 p2 h4 => h4.ret st2.sx (.cons (Rp.mono st2.ff p1) p2)⟩
theorem g_tupS {es : List Ex} {k : Nat} {p : Pos} (ih : ∀ e, Good X cls Wx C e (f e)) : Good X cls Wx C (.Tuple es k p) (.tupS (es.map isStar) (es.map (trX f))) := by
  have pe : PE X (.Tuple es k p) (tE X cls Wx (den C (.tupS (es.map isStar) (es.map (trX f))))) := by
    refine (pe_tup (pa_xs ih es)).mono fun σ H Q h => ?_
    obtain ⟨B, F, ρ, O, s, h1⟩ := (show tE X cls Wx (M.bnd (denXs C (es.map (trX f)) (es.map isStar)) fun ds => if ds.length ≤ 1000 then M.ret (.val (.tup ds)) else M.stuck) σ H Q from h)
    refine ⟨B, F, ρ, O, s, h1.seq (early_W _) fun xs vs F1 H1 ρ1 O1 _ st p1 h2 => ?_⟩
    obtain ⟨hl, h3⟩ := h2.iff_
    have af := h3.after st.sx
    exact ⟨big1000 (by rw [RpL.length p1]; exact hl), fun q hq => After.new_tup st.sx.fh af p1 hq⟩
  exact ⟨pe, pt_of pe (by intro _; rfl), fun i h => by cases h⟩
theorem g_lstS {es : List Ex} {p : Pos} (ih : ∀ e, Good X cls Wx C e (f e)) : Good X cls Wx C (.List es p) (.lstS (es.map isStar) (es.map (trX f))) := by
  have pe : PE X (.List es p) (tE X cls Wx (den C (.lstS (es.map isStar) (es.map (trX f))))) := by
    refine (pe_lst (pa_xs ih es)).mono fun σ H Q h => ?_
    obtain ⟨B, F, ρ, O, s, h1⟩ := (show tE X cls Wx (M.bnd (denXs C (es.map (trX f)) (es.map isStar)) fun ds => if ds.length ≤ 1000 then M.ret (.own (.lst ds)) else M.stuck) σ H Q from h)
    refine ⟨B, F, ρ, O, s, h1.seq (early_W _) fun xs vs F1 H1 ρ1 O1 _ st p1 h2 => ?_⟩
    obtain ⟨hl, h3⟩ := h2.iff_
    have af := h3.after st.sx
    exact ⟨big1000 (by rw [RpL.length p1]; exact hl), fun q hq => After.own_lst st.sx.fh af p1 hq⟩
  exact ⟨pe, pt_of pe (by intro _; rfl), fun i h => by cases h⟩
end
end Py
set_option Elab.async false
set_option linter.all false
set_option maxRecDepth 100000
set_option maxHeartbeats 4000000
/-! PyO: dict displays, dict.get. -/
namespace Py
open PySem PySem.Spec L2 PySem.SeqAt PyProof.Rows
section
variable {X : Cx} {cls : Nm} {B : Base} {Wx : WX} {C : Cfg}
theorem putK_new {acc : List (Key × VV)} {k : Key} {v : VV} (h : k ∉ acc.map (·.1)) : putK acc k v = acc ++ [(k, v)] := by
  unfold putK
  rw [if_neg]
  intro q
  rw [List.any_eq_true] at q
  obtain ⟨x, hx, e⟩ := q
  exact h (List.mem_map.mpr ⟨x, hx, of_decide_eq_true e⟩)
theorem merge_nodup : ∀ {kvs acc : List (Key × VV)}, (acc.map (·.1) ++ kvs.map (·.1)).Nodup → mergeK acc kvs = acc ++ kvs
  | [], acc, _ => by simp [mergeK]
  | (k, v) :: r, acc, h => by
    have h1 : k ∉ acc.map (·.1) := by
      intro q
      rw [List.nodup_append] at h
      exact h.2.2 k q k (by simp) rfl
    show mergeK (putK acc k v) r = _
    rw [putK_new h1, merge_nodup (by simpa [List.append_assoc] using h)]
    simp
theorem keysOf_some : ∀ {ks : List (Option Ex)} {zs : List Str}, keysOf ks = some zs → ks.all (·.isSome) = true ∧ ks.length = zs.length
  | [], zs, h => by cases h; exact ⟨rfl, rfl⟩
  | none :: _, _, h => by cases h
  | some k :: r, zs, h => by
    cases k with
    | Constant c j p =>
      cases c with
      | str x =>
        obtain ⟨zr, hz, rfl⟩ := Option.map_eq_some_iff.mp (show (keysOf r).map (x :: ·) = some zs from h)
        obtain ⟨a, b⟩ := keysOf_some hz
        exact ⟨by simpa using a, by simp [b]⟩
      | _ => cases h
    | _ => cases h
/-- the pairs of a display -/
def trsOf (X : Cx) (cls : Nm) (Wx : WX) (C : Cfg) : List Str → List E → List (TE × TE)
  | z :: zs, e :: es => (tC (.str z), tF X cls Wx (fzM (den C e))) :: trsOf X cls Wx C zs es
  | _, _ => []
theorem pps_of {p : Pos} : ∀ {ks : List (Option Ex)} {zs : List Str} {vs : List Ex} {es : List E}, keysOf ks = some zs → Goods X cls Wx C vs es → ks.length = vs.length → PPs X p ks vs (trsOf X cls Wx C zs es)
  | [], zs, [], es, h, g, _ => by cases h; cases es with
    | nil => exact pps_nil
    | cons _ _ => exact g.elim
  | [], _, _ :: _, _, _, _, hl => by cases hl
  | none :: _, _, _, _, h, _, _ => by cases h
  | some k :: r, zs, [], es, h, g, hl => by cases hl
  | some k :: r, zs, v :: vs, es, h, g, hl => by
    cases k with
    | Constant c j q =>
      cases c with
      | str x =>
        obtain ⟨zr, hz, rfl⟩ := Option.map_eq_some_iff.mp (show (keysOf r).map (x :: ·) = some zs from h)
        cases es with
        | nil => exact g.elim
        | cons e es => exact pps_cons pe_str g.1.fz (pps_of hz g.2 (by simpa using hl))
      | _ => cases h
    | _ => cases h
theorem pairs_run : ∀ {zs : List Str} {es : List E} {σ : Sg} {F H : Hp} {ρ : Env} {O : List Addr} {Q : List VV → Hp → Prop} {J : List (L2.V × L2.V) → Hp → Prop}, zs.length = es.length → Sx (zd X cls) B F H σ ρ O → Run (zd X cls) B Wx (pL (zd X cls)) (denEs C es) σ F H ρ O Q →
    (∀ vs H', vs.length = zs.length → Q vs H' → J ((zs.zip vs).map fun kv => (L2.V.str kv.1, kv.2)) H') → tPairs (trsOf X cls Wx C zs es) σ H J
  | [], [], σ, F, H, ρ, O, Q, J, _, s, h, k => k [] H rfl ((show Run (zd X cls) B Wx (pL (zd X cls)) (M.ret []) σ F H ρ O Q from h).ret s RpL.nil)
  | [], _ :: _, _, _, _, _, _, _, _, h, _, _, _ => by cases h
  | _ :: _, [], _, _, _, _, _, _, _, h, _, _, _ => by cases h
  | z :: zs, e :: es, σ, F, H, ρ, O, Q, J, hl, s, h, k => by
    have h' : Run (zd X cls) B Wx (pL (zd X cls)) (M.bnd (fzM (den C e)) fun d => M.bnd (denEs C es) fun ds => M.ret (d :: ds)) σ F H ρ O Q := h
    show tC (.str z) σ H fun x H1 => tF X cls Wx (fzM (den C e)) σ H1 fun y H2 => tPairs (trsOf X cls Wx C zs es) σ H2 fun ps H3 => J ((x, y) :: ps) H3
    refine ⟨B, F, ρ, O, s, h'.seq (early_L _) fun x v F1 H1 ρ1 O1 _ st p1 h2 => ?_⟩
    have h3 : Run (zd X cls) B Wx (pL (zd X cls)) (denEs C es) σ F1 H1 ρ1 O1 (fun vs H' => Q (v :: vs) H') :=
      h2.seq (early_L _) fun xs vs F2 H2 ρ2 O2 _ st2 p2 h3 => h3.ret st2.sx (.cons (Rp.mono st2.ff p1) p2)
    exact pairs_run (by simpa using hl) st.sx h3 fun vs H' hv q => k (v :: vs) H' (by simp [hv]) q
theorem goods_len : ∀ {es : List Ex} {es' : List E}, Goods X cls Wx C es es' → es.length = es'.length
  | [], [], _ => rfl
  | _ :: _, _ :: _, g => congrArg (· + 1) (goods_len g.2)
  | [], _ :: _, g => g.elim
  | _ :: _, [], g => g.elim
theorem denEs_len : ∀ {es : List E} {ds : List D} {ρ ρ' : Env}, denEs C es ρ = some (.ok ds, ρ') → ds.length = es.length
  | [], ds, ρ, ρ', h => by
    have h' : (M.ret [] : M (List D)) ρ = some (.ok ds, ρ') := h
    cases h'; rfl
  | e :: es, ds, ρ, ρ', h => by
    have h' : (M.bnd (fzM (den C e)) fun d => M.bnd (denEs C es) fun ds => M.ret (d :: ds)) ρ = some (.ok ds, ρ') := h
    unfold M.bnd at h'
    cases q : fzM (den C e) ρ with
    | none => simp only [q] at h'; cases h'
    | some r =>
      obtain ⟨r, ρ1⟩ := r
      cases r with
      | ex x => simp only [q] at h'; cases h'
      | ok d =>
        simp only [q] at h'
        cases q2 : denEs C es ρ1 with
        | none => simp only [q2] at h'; cases h'
        | some r2 =>
          obtain ⟨r2, ρ2⟩ := r2
          cases r2 with
          | ex x => simp only [q2] at h'; cases h'
          | ok dr =>
            simp only [q2] at h'
            cases h'
            exact congrArg (· + 1) (denEs_len q2)
theorem zip_keys {zs : List Str} {vs : List VV} (h : vs.length = zs.length) : ((zs.map Sum.inr : List Key).zip vs).map (fun kv => (kV kv.1, kv.2)) = (zs.zip vs).map fun kv => (L2.V.str kv.1, kv.2) := by
  induction zs generalizing vs with
  | nil => simp
  | cons z zs ih =>
    cases vs with
    | nil => cases h
    | cons v vs =>
      rw [List.map_cons, List.zip_cons_cons, List.zip_cons_cons, List.map_cons, List.map_cons, ih (by simpa using h)]
      rfl
theorem g_dic {ks : List (Option Ex)} {zs : List Str} {vs : List Ex} {es : List E} {p : Pos} (hk : keysOf ks = some zs) (g : Goods X cls Wx C vs es) (hl : ks.length = vs.length) (hn : zs.Nodup ∧ zs.length ≤ 15) : Good X cls Wx C (.Dict ks vs p) (.dic zs es) := by
  obtain ⟨hall, hkl⟩ := keysOf_some hk
  have hze : zs.length = es.length := by rw [← hkl, hl, goods_len g]
  have pe : PE X (.Dict ks vs p) (tE X cls Wx (den C (.dic zs es))) := by
    by_cases h0 : ks = []
    · subst h0
      cases vs with
      | cons _ _ => cases hl
      | nil =>
        cases hk
        cases es with
        | cons _ _ => cases hze
        | nil =>
          refine pe_dnewK.mono fun σ H Q h => ?_
          obtain ⟨B, F, ρ, O, s, h1⟩ := (show tE X cls Wx (M.bnd (M.ret []) fun ds => if ([] : List Str).Nodup ∧ ds.length = ([] : List Str).length ∧ ([] : List Str).length ≤ 15 then M.ret (.own (.dic (([] : List Str).map .s) ds)) else M.stuck) σ H Q from h)
          have h2 : Run (zd X cls) B Wx (pW (zd X cls)) (M.ret (.own (.dic [] []))) σ F H ρ O Q := h1
          intro q hq
          refine h2.after s (.ref q) F _ [q] (Gr.own s.fh hq) ⟨q, rfl, ⟨⟨rfl, [], [], upd_same, rfl, List.nodup_nil, rfl, .nil⟩, fun b hb => by simp at hb; subst hb; exact sub_none s.fh hq, by simp⟩⟩ fun b hb => by simp at hb; subst hb; exact hq
    · refine (pe_disp (pps_of (p := p) hk g hl) hall hl h0 (by rw [hkl]; exact hn.2)).mono fun σ H Q h => ?_
      obtain ⟨B, F, ρ, O, s, r, ρ', hm, en⟩ := (show tE X cls Wx (M.bnd (denEs C es) fun ds => if zs.Nodup ∧ ds.length = zs.length ∧ zs.length ≤ 15 then M.ret (.own (.dic (zs.map .s) ds)) else M.stuck) σ H Q from h)
      intro q hq
      have hFq := sub_none s.fh hq
      have gr : Gr cls.T F H F (upd H q (.dK [])) := Gr.own s.fh hq
      have s1 : Sx (zd X cls) (B.more q) F (upd H q (.dK [])) σ ρ O := (s.grow gr).more (by rw [upd_same]; simp) hFq (s.new_O hq)
      have back : ∀ {F' H' ρ' O'}, Stp (zd X cls) (B.more q) σ F (upd H q (.dK [])) O F' H' ρ' O' → Stp (zd X cls) B σ F H O F' H' ρ' O' := fun st =>
        ⟨st.sx.less, st.oo, st.ff, fun b o n e n1 => st.kk b o n (gr.hh b o e n1) n1, fun b e => st.tt b (gr.there e)⟩
      have h3 : Run (zd X cls) (B.more q) Wx (pL (zd X cls)) (denEs C es) σ F (upd H q (.dK [])) ρ O (fun vs' H2 => vs'.length = zs.length → H2 q = some (.dK []) ∧ Q (.ref q) (upd H2 q (.dK ((zs.map Sum.inr : List Key).zip vs')))) := by
        unfold M.bnd at hm
        cases k : denEs C es ρ with
        | none => simp only [k] at hm; cases hm
        | some pr =>
          obtain ⟨r1, ρ1⟩ := pr
          cases r1 with
          | ex x =>
            simp only [k] at hm
            cases hm
            exact ⟨_, _, k, fun F' H' O' cls dx st ex => en F' H' O' cls dx (back st) ex⟩
          | ok ds =>
            simp only [k] at hm
            have hc : zs.Nodup ∧ ds.length = zs.length ∧ zs.length ≤ 15 := ⟨hn.1, by rw [denEs_len k]; exact hze.symm, hn.2⟩
            rw [if_pos hc] at hm
            cases hm
            refine ⟨_, _, k, fun vs' F2 H2 O2 st pl hvl => ?_⟩
            have hq2 : H2 q = some (.dK []) := st.kk q _ (s.new_O hq) upd_same (fun _ z => nomatch z)
            refine ⟨hq2, ?_⟩
            have hpr := st.sx.pr q List.mem_cons_self
            have sx' := st.sx.chg_ex (o := .dK ((zs.map Sum.inr : List Key).zip vs')) List.mem_cons_self (show (B.more q).H0 q = none from s.new hq) ⟨_, hq2, fun _ z => nomatch z⟩
            have st0 := back st
            refine en (.ref q) F2 _ O2 ⟨sx'.less, st0.oo, st0.ff, fun b o n e => ?_, fun b e => ?_⟩ ⟨[q], ⟨q, rfl, ⟨⟨rfl, zs.map Sum.inr, vs', upd_same, by simp [hvl], ?_, by rw [List.map_map]; rfl, pl⟩, fun b hb => by simp at hb; subst hb; exact hpr.2.1, by simp⟩⟩, fun b hb => by simp at hb; subst hb; exact hq⟩
            · rw [upd_ne fun z => by subst z; rw [hq] at e; cases e]
              exact st0.kk b o n e
            · by_cases z : b = q
              · subst z; rw [upd_same]; simp
              · rw [upd_ne z]; exact st0.tt b e
            · exact hn.1.map _ (fun a b h => fun z => h (by injection z))
      refine pairs_run hze s1 h3 fun vs' H2 hvl hq2 => ?_
      obtain ⟨a, b⟩ := hq2 hvl
      have nd : ((zs.map Sum.inr : List Key).zip vs').map (·.1) = zs.map Sum.inr := by rw [List.map_fst_zip]; simp [hvl]
      refine ⟨a, (zs.map Sum.inr : List Key).zip vs', (zip_keys hvl).symm, by simp [hvl]; exact hn.2, ?_⟩
      rw [merge_nodup (by
        rw [nd]
        simp only [List.map_nil, List.nil_append]
        exact hn.1.map _ (fun a b h => fun z => h (by injection z))), List.nil_append]
      exact b
  exact ⟨pe, pt_of pe (by intro _; rfl), fun i h => by cases h⟩
/-! ### dict.get with a default -/
theorem get_dic {A : Around} {E : Value → Shared → Prop} {pins : List (Addr × Obj)} {σ : Sg} {F H : Hp} {s : Shared} (I : Inv X pins σ H s) (fh : Sub F H) (hu : A.units + 1 < cLine) {a : Addr} {y z : VV} {u r : Value} {d e : D} {k : Ky} {ks : List Ky} {ds : List D}
    (hx : Sh (zd X cls) F H (.ref a) (.dic ks ds)) (hk : kyOf d = some k) (hy : Sh (zd X cls) F H y d) (ry : RelV y u) (rz : RelV z r) (hz : Rp (zd X cls) F z e) (fit : kyFit k ks = true) {Q : Value → Shared → Prop}
    (h : ∀ v w s', Inv X pins σ H s' → Rp (zd X cls) F v ((look k ks ds).getD e) → RelV v w → Q w s') : wpAny (model X.prog X.w) A (call (.builtin "dict.get") [.ref a, u, r]) Q E s := by
  obtain ⟨q, rfl, rfl⟩ := kyOf_key hy hk
  rcases hx.dic fh with ⟨a', qs, vs, e1, ha, hl, nd, rfl, l⟩ | ⟨a', es, n, zs, vs, e1, hkd, nz, hl, nd, hr, rfl, l⟩
  · cases e1
    obtain ⟨h1, h2, _⟩ := look_val (q := q) hl l
    refine d_get2 hu I (.inl ⟨_, _, .of ha, rfl, rfl⟩) ry rz fun w' s' I' rw' => ?_
    cases p : look (kyK q) (qs.map kyK) ds with
    | none => rw [h2 p] at rw'; exact h z w' s' I' (by rw [p]; exact hz) rw'
    | some d' =>
      obtain ⟨v, e2, rv⟩ := h1 d' p
      rw [e2] at rw'
      exact h v w' s' I' (by rw [p]; exact rv) rw'
  · cases e1
    obtain ⟨z', hz'⟩ := fit_str fit nz
    cases q with
    | inl i => cases hz'
    | inr z2 =>
      cases hz'
      obtain ⟨t, rfl⟩ := ry
      obtain ⟨h1, h2, _⟩ := look_lk (z := z') hl l
      obtain ⟨rr, e2, ro⟩ := hr z'
      have mp := PySem.W.mapOf_K (prog := X.prog) (w := X.w) I.kIn hkd.at_ hkd.lit
      refine call_meetsIn PySem.F.slot_dict_get mp.typeIs PySem.F.entry_dict_get (PySem.F.args_dict_get_3 _ _ _) (meets_dict_get_default (strKind X.prog X.w) a (strKind_is X.prog X.w z' t) hkd.low r) ⟨_, mp, ?_⟩
      rw [PySem.W.find_K hkd.at_ e2]
      cases p : look (.s z') (zs.map Ky.s) ds with
      | none =>
        rw [h2 p] at ro
        cases rr with
        | none => exact h z r _ (I.tok _) (by show Rp _ _ _ ((look (.s z') (zs.map Ky.s) ds).getD e); rw [p]; exact hz) rz
        | some u0 => exact ro.elim
      | some d' =>
        obtain ⟨v, e3, rv⟩ := h1 d' p
        rw [e3] at ro
        cases rr with
        | none => exact ro.elim
        | some u0 => exact h v u0 _ (I.tok _) (by show Rp _ _ _ ((look (.s z') (zs.map Ky.s) ds).getD e); rw [p]; exact rv) ro
theorem m2_of {o a b : Ex} {m : Str} {ap cp : Pos} (h1 : isCall o = false) (h2 : [a, b].any isStar = false) (h3 : (ap.endLine == cp.line) = true) : M2 X o m ap a b cp := by
  have e := back_plain (pos := cp) (env := X.env) h2
  refine ⟨base_ok h1, ?_, h3, e⟩
  rw [e]
  rfl
theorem dict_type {pins : List (Addr × Obj)} {σ : Sg} {F H : Hp} {s : Shared} {x : VV} {v : Value} {ks : List Ky} {ds : List D} (I : Inv X pins σ H s) (fh : Sub F H) (r : RelV x v) (h : Sh (zd X cls) F H x (.dic ks ds)) :
    ∃ a, x = .ref a ∧ v = .ref a ∧ s.TypeIs (.ref a) "dict" ∧ ∀ b, Value.ref a = .ref b → ∃ ob, s.heap.get? b = some ob ∧ ob.dict = none := by
  rcases h.dic fh with ⟨a, qs, vs, rfl, ha, hl, nd, rfl, l⟩ | ⟨a, es, n, zs, vs, rfl, hkd, nz, hl, nd, hr, rfl, l⟩
  · cases r
    obtain ⟨t1, t2, _⟩ := isD_at I (.inl ⟨_, .of ha⟩)
    exact ⟨a, rfl, rfl, t1, t2⟩
  · cases r
    refine ⟨a, rfl, rfl, kd_type hkd I, fun b e => ?_⟩
    cases e
    exact ⟨_, I.kIn _ _ hkd.at_, rfl⟩
theorem g_get (hu : X.A.units + 64 < cLine) {o a b : Ex} {o' a' b' : E} {ap cp : Pos} (h1 : isCall o = false) (h2 : [a, b].any isStar = false) (h3 : (ap.endLine == cp.line) = true) (go : Good X cls Wx C o o') (ga : Good X cls Wx C a a') (gb : Good X cls Wx C b b') :
    Good X cls Wx C (.Call (.Attribute o "get" ap) [a, b] [] cp) (.bm .get o' [a', b']) := by
  have m := m2_of (X := X) (m := "get") h1 h2 h3
  have pe : PE X (.Call (.Attribute o "get" ap) [a, b] [] cp) (tE X cls Wx (den C (.bm .get o' [a', b']))) := by
    refine ⟨fun pins s σ H Q I h => ?_⟩
    obtain ⟨B, F, ρ, O, sx, h1⟩ := (show tE X cls Wx (M.bnd (opd o' (den C o')) fun x => if isDic x then M.bnd (denEs C [a', b']) fun ds => fin1 o' x fun x => valM (bmD .get x ds) else M.stuck) σ H Q from h)
    have q0 : tP X cls Wx C o' σ H fun x H1 => ∃ F1 ks ds, Sub F1 H1 ∧ Sh (zd X cls) F1 H1 x (.dic ks ds) ∧ tF X cls Wx (fzM (den C a')) σ H1 fun y H2 => tF X cls Wx (fzM (den C b')) σ H2 fun z H3 =>
        ∃ F3 ks ds d e k, Sub F3 H3 ∧ Sh (zd X cls) F3 H3 x (.dic ks ds) ∧ kyOf d = some k ∧ Sh (zd X cls) F3 H3 y d ∧ Rp (zd X cls) F3 z e ∧ kyFit k ks = true ∧ ∀ v, Rp (zd X cls) F3 v ((look k ks ds).getD e) → Q v H3 := by
      refine ⟨B, F, ρ, O, sx, h1.seq (early_W _) fun x v F1 H1 ρ1 O1 hm st p1 h2 => ?_⟩
      cases x with
      | dic ks ds =>
        have h2' : Run (zd X cls) B Wx (pW (zd X cls)) (M.bnd (M.bnd (fzM (den C a')) fun d => M.bnd (M.bnd (fzM (den C b')) fun d => M.bnd (M.ret []) fun ds => M.ret (d :: ds)) fun ds => M.ret (d :: ds)) fun ds' => fin1 o' (.dic ks ds) fun x => valM (bmD .get x ds')) σ F1 H1 ρ1 O1 Q := h2
        refine ⟨F1, ks, ds, st.sx.fh, p1.sh st.sx Sub.rfl (opd_fin hm), ?_⟩
        have h3 : Run (zd X cls) B Wx (pW (zd X cls)) (M.bnd (fzM (den C a')) fun da => M.bnd (fzM (den C b')) fun db => fin1 o' (.dic ks ds) fun x => valM (bmD .get x [da, db])) σ F1 H1 ρ1 O1 Q := by
          refine h2'.as ?_
          unfold M.bnd M.ret
          cases fzM (den C a') ρ1 with
          | none => rfl
          | some r =>
            obtain ⟨r, ρ2⟩ := r
            cases r with
            | ex x => rfl
            | ok d =>
              simp only
              cases fzM (den C b') ρ2 with
              | none => rfl
              | some r =>
                obtain ⟨r, ρ3⟩ := r
                cases r <;> rfl
        refine ⟨B, F1, ρ1, O1, st.sx, h3.seq (early_W _) fun y yv F2 H2 ρ2 O2 _ st2 p2 h4 => ⟨B, F2, ρ2, O2, st2.sx, h4.seq (early_W _) fun z zv F3 H3 ρ3 O3 _ st3 p3 h5 => ?_⟩⟩
        obtain ⟨x', e1, h6⟩ := h5.fin1
        obtain ⟨w, e2, af⟩ := h6.valM st3.sx
        cases x' with
        | dic ks' ds' =>
          obtain ⟨k, hk, e3⟩ := ky_bind (show ((kyOf y).bind fun k => if kyFit k ks' = true then some ((look k ks' ds').getD z) else none) = some w from e2)
          obtain ⟨fit, e4⟩ := ite_some e3
          cases e4
          exact ⟨F3, ks', ds', y, z, k, st3.sx.fh, p1.sh st3.sx (st2.ff.tr st3.ff) e1, hk, .inl (Rp.mono st3.ff p2), p3, fit, fun v r => af.val st3.sx.fh r⟩
        | _ => cases e2
      | _ => exact h2.stuck.elim
    refine wpAny_Call_method m.base m.few m.line PySem.F.plainAttrs_dict PySem.F.slot_dict_get PySem.F.type_dict_get (thn (go.op.run pins s σ H _ I q0) fun u s1 ⟨x, H1, I1, rx, F1, ks, ds, fh, hx, q1⟩ => ?_)
    obtain ⟨a0, rfl, rfl, t1, t2⟩ := dict_type I1 fh rx hx
    refine ⟨t1, t2, ?_⟩
    rw [m.trees]
    refine Calls.callWith_builtin rfl (Calls.evalArgs_plain (Calls.spliced_cons (thn (ga.fz.run pins s1 σ H1 _ I1 q1) fun iv s2 ⟨y, H2, I2, ry, q2⟩ => ?_)))
    refine Calls.spliced_cons (thn (gb.fz.run pins s2 σ H2 _ I2 q2) fun fv s3 ⟨z, H3, I3, rz, q3⟩ => Calls.spliced_nil ?_)
    obtain ⟨F3, ks3, ds3, d, e, k, fh3, hx3, hk, hy, hz, fit, q⟩ := q3
    exact get_dic I3 fh3 (by omega) hx3 hk hy ry rz hz fit fun v w s4 I4 rv rw' => ⟨v, H3, I4, rw', q v rv⟩
  exact ⟨pe, pt_of pe (by intro _; rfl), fun i h => by cases h⟩
end
end Py
set_option Elab.async false
set_option linter.all false
set_option maxRecDepth 100000
set_option maxHeartbeats 4000000
/-! PyQ: calls. -/
namespace Py
open PySem PySem.Spec L2 PySem.SeqAt PyProof.Rows
section
variable {Z : Wd} {H0 F F' H H' : Hp} {σ : Sg} {ρ : Env} {J : IoJ} {O : List Addr} {i : Nat} {d : D} {o : Ob} {m : Bool}
theorem SlR.own_io (h : SlR Z H0 F H σ ρ J O) : ∀ {i : Nat}, ρ[i]? = some (.own o m) → ∃ p fp, σ[i]? = some (some (L2.V.ref p)) ∧ Own Z F H p fp o ∧ (∀ b ∈ fp, b ∈ O) ∧ (m = false → ∀ b ∈ fp, H0 b = none) ∧ (m = true → some (p, fp) ∈ J) := by
  induction h with
  | nil => intro i e; simp at e
  | un _ ih => intro i e; cases i with
    | zero => simp at e
    | succ i => obtain ⟨p, fp, a, b, c, d, f⟩ := ih (i := i) (by simpa using e); exact ⟨p, fp, a, b, c, d, fun z => List.mem_cons_of_mem _ (f z)⟩
  | val r _ ih => intro i e; cases i with
    | zero => simp at e
    | succ i => obtain ⟨p, fp, a, b, c, d, f⟩ := ih (i := i) (by simpa using e); exact ⟨p, fp, a, b, c, d, fun z => List.mem_cons_of_mem _ (f z)⟩
  | own w f n _ ih => intro i e; cases i with
    | zero =>
      simp at e
      obtain ⟨rfl, rfl⟩ := e
      exact ⟨_, _, rfl, w, fun b hb => List.mem_append_left _ hb, fun _ => f, fun (z : false = true) => absurd z (by decide)⟩
    | succ i =>
      obtain ⟨p, fp, a, b, c, d, f⟩ := ih (i := i) (by simpa using e)
      exact ⟨p, fp, a, b, fun x hx => List.mem_append_right _ (c x hx), d, fun z => List.mem_cons_of_mem _ (f z)⟩
  | io w n _ ih => intro i e; cases i with
    | zero =>
      simp at e
      obtain ⟨rfl, rfl⟩ := e
      exact ⟨_, _, rfl, w, fun b hb => List.mem_append_left _ hb, fun (z : true = false) => absurd z (by decide), fun _ => List.mem_cons_self⟩
    | succ i =>
      obtain ⟨p, fp, a, b, c, d, f⟩ := ih (i := i) (by simpa using e)
      exact ⟨p, fp, a, b, fun x hx => List.mem_append_right _ (c x hx), d, fun z => List.mem_cons_of_mem _ (f z)⟩
/-- what belongs to an object is told by it -/
theorem OwnR.fp_eq {p : Addr} {fp fp' : List Addr} {o : Ob} (h : OwnR Z F H p fp o) (h' : OwnR Z F H p fp' o) : fp = fp' := by
  cases o with
  | lst ds => obtain ⟨e, _⟩ := h; obtain ⟨e', _⟩ := h'; rw [e, e']
  | dic ks ds => obtain ⟨e, _⟩ := h; obtain ⟨e', _⟩ := h'; rw [e, e']
  | ins c fs ds =>
    obtain ⟨dx, vs, e, e1, _⟩ := h
    obtain ⟨dx', vs', e', e2, _⟩ := h'
    rw [e1] at e2
    injection e2 with e2
    injection e2 with _ e3 _
    rw [e, e', e3]
  | drw st =>
    obtain ⟨aw, ac, e, e1, _⟩ := h
    obtain ⟨aw', ac', e', e2, _⟩ := h'
    rw [e1] at e2
    simp at e2
    rw [e, e', e2.1, e2.2]
/-- an owned object is changed, the frozen heap grows -/
theorem SlR.chg_grow {p : Addr} {fp : List Addr} {o' : Ob} (s : Sub F F') (new : Own Z F' H' p fp o') (kp : ∀ b, b ∉ fp → ∀ u, b ∈ O → H b = some u → NT u → H' b = some u) (h : SlR Z H0 F H σ ρ J O) : (∀ b ∈ O, F' b = none) → ∀ {i : Nat}, ρ[i]? = some (.own o m) → σ[i]? = some (some (L2.V.ref p)) → OwnR Z F H p fp o → SlR Z H0 F' H' σ (ρ.set i (.own o' m)) J O := by
  induction h with
  | nil => intro _ i e; simp at e
  | un q ih => intro n i e a b; cases i with
    | zero => simp at e
    | succ i => exact .un (ih kp n (by simpa using e) (by simpa using a) b)
  | val r q ih => intro n i e a b; cases i with
    | zero => simp at e
    | succ i => exact .val (r.mono s) (ih kp n (by simpa using e) (by simpa using a) b)
  | @own p0 fp0 o0 σ ρ J O w f dj q ih => intro n i e a b; cases i with
    | zero =>
      simp at e a
      obtain ⟨rfl, rfl⟩ := e
      cases a
      have ef := w.r.fp_eq b
      subst ef
      exact .own new f dj (q.keep s (fun b hb u e n1 => kp b (fun z => dj b z hb) u (List.mem_append_right _ hb) e n1) fun b hb => n b (List.mem_append_right _ hb))
    | succ i =>
      have e' : ρ[i]? = some (.own o m) := by simpa using e
      have a' : σ[i]? = some (some (L2.V.ref p)) := by simpa using a
      refine .own ⟨w.r.keep s fun x hx u e n1 => kp x (fun z => ?_) u (List.mem_append_left _ hx) e n1, fun x hx => n x (List.mem_append_left _ hx), w.nd⟩ f dj (ih (fun b h1 u h2 => kp b h1 u (List.mem_append_right _ h2)) (fun b hb => n b (List.mem_append_right _ hb)) e' a' b)
      obtain ⟨p1, fp1, a1, b1, c1, _⟩ := q.own_at e'
      rw [a1] at a'
      cases a'
      have ef := b1.r.fp_eq b
      subst ef
      exact dj x hx (c1 x z)
  | @io p0 fp0 o0 σ ρ J O w dj q ih => intro n i e a b; cases i with
    | zero =>
      simp at e a
      obtain ⟨rfl, rfl⟩ := e
      cases a
      have ef := w.r.fp_eq b
      subst ef
      exact .io new dj (q.keep s (fun b hb u e n1 => kp b (fun z => dj b z hb) u (List.mem_append_right _ hb) e n1) fun b hb => n b (List.mem_append_right _ hb))
    | succ i =>
      have e' : ρ[i]? = some (.own o m) := by simpa using e
      have a' : σ[i]? = some (some (L2.V.ref p)) := by simpa using a
      refine .io ⟨w.r.keep s fun x hx u e n1 => kp x (fun z => ?_) u (List.mem_append_left _ hx) e n1, fun x hx => n x (List.mem_append_left _ hx), w.nd⟩ dj (ih (fun b h1 u h2 => kp b h1 u (List.mem_append_right _ h2)) (fun b hb => n b (List.mem_append_right _ hb)) e' a' b)
      obtain ⟨p1, fp1, a1, b1, c1, _⟩ := q.own_at e'
      rw [a1] at a'
      cases a'
      have ef := b1.r.fp_eq b
      subst ef
      exact dj x hx (c1 x z)
end
section
variable {Z : Wd} {B : Base} {F F' H H' : Hp} {σ : Sg} {ρ : Env} {O : List Addr} {i : Nat} {o o' : Ob} {m : Bool}
/-- the object of slot i is changed (in H'), new things may stand -/
theorem Sx.chgT {p : Addr} {fp : List Addr} (s : Sx Z B F H σ ρ O) (hi : ρ[i]? = some (.own o m)) (hσ : σ[i]? = some (some (L2.V.ref p))) (w : OwnR Z F H p fp o) (ff : Sub F F') (fh : Sub F' H')
    (hh : ∀ b u, b ∉ fp → H b = some u → NT u → H' b = some u) (fn : ∀ b, F' b ≠ none → F b = none → H b = none) (htb : Tbs Z.cls.T F' H') (hht : ∀ P ps, H P = some (.tbl ps) → ∃ ps', H' P = some (.tbl ps')) (new : Own Z F' H' p fp o') : Stp Z B σ F H O F' H' (ρ.set i (.own o' m)) O := by
  obtain ⟨p1, fp1, a1, b1, c1, d1, f1⟩ := s.sl.own_io hi
  rw [a1] at hσ
  cases hσ
  have ef := b1.r.fp_eq w
  subst ef
  have tt : ∀ b, H b ≠ none → H' b ≠ none := fun b h => by
    by_cases hb : b ∈ fp1
    · exact new.r.there b hb
    · cases q : H b with
      | none => exact absurd q h
      | some u =>
        by_cases n : NT u
        · rw [hh b u hb q n]; simp
        · have : ∃ ps, u = .tbl ps := Classical.byContradiction fun z => n fun ps e => z ⟨ps, e⟩
          obtain ⟨ps, rfl⟩ := this
          obtain ⟨ps', e⟩ := hht b ps q
          rw [e]; simp
  refine ⟨⟨fh, s.f0.tr ff, fun b u n e n1 => hh b u (fun z => ?_) (s.h0 b u n e n1) n1, htb, fun P ps e => let ⟨ps', e'⟩ := s.ht P ps e; hht P ps' e', fun b h e => ?_, s.sl.chg_grow ff new (fun b hb u _ e n1 => hh b u hb e n1) (fun b hb => ?_) hi a1 b1.r, fun b hb => ?_⟩, fun _ h => h, ff, fun b u hb e n1 => hh b u (fun z => hb (c1 b z)) e n1, tt⟩
  · cases m with
    | false => rw [d1 rfl b z] at e; cases e
    | true => exact n _ fp1 (f1 rfl) z
  · cases q : F b with
    | none => exact s.new (fn b h q)
    | some u => exact s.fn b (by rw [q]; simp) e
  · cases q : F' b with
    | none => rfl
    | some u => exact absurd (fn b (by rw [q]; simp) (s.sl.there b hb).2) (s.sl.there b hb).1
  · obtain ⟨h1, h2, h3⟩ := s.pr b hb
    refine ⟨tt b h1, ?_, h3⟩
    cases q : F' b with
    | none => rfl
    | some u => exact absurd (fn b (by rw [q]; simp) h2) h1
theorem Sx.chg {p : Addr} {fp : List Addr} (s : Sx Z B F H σ ρ O) (hi : ρ[i]? = some (.own o m)) (hσ : σ[i]? = some (some (L2.V.ref p))) (w : OwnR Z F H p fp o) (ff : Sub F F') (fh : Sub F' H')
    (hh : ∀ b u, b ∉ fp → H b = some u → H' b = some u) (fn : ∀ b, F' b ≠ none → F b = none → H b = none) (new : Own Z F' H' p fp o') : Stp Z B σ F H O F' H' (ρ.set i (.own o' m)) O :=
  s.chgT hi hσ w ff fh (fun b u n e _ => hh b u n e) fn (fun p hp => (s.tb p hp).mono ff (fun n => by
    cases q : F' p.1 with
    | none => rfl
    | some o => exact absurd (fn p.1 (by rw [q]; simp) (s.tb p hp).1) n) fun ps e => hh _ _ (fun hb => w.nt _ hb ps e) e) (fun P ps e => ⟨ps, hh _ _ (fun hb => w.nt P hb ps e) e⟩) new
end
/-! ### arguments -/
section
variable {X : Cx} {cls : Nm} {Wx : WX} {C : Cfg}
def pAs (Z : Wd) (σ : Sg) : Rl (List AV) (List VV) := fun F _ _ _ vs as => Paired (fun (v : VV) (a : AV) => match a with
  | .v d => Rp Z F v d
  | .io i => σ[i]? = some (some v)) vs as
theorem early_As (Z : Wd) (σ : Sg) : Early (pAs Z σ) := fun _ _ _ _ _ _ _ _ h => h
theorem pAs.mono {Z : Wd} {σ : Sg} {F F' H H' G G' : Hp} {ρ ρ' : Env} {vs : List VV} {as : List AV} (p : pAs Z σ F H G ρ vs as) (f : Sub F F') : pAs Z σ F' H' G' ρ' vs as := by
  refine Paired.mapP p fun v a h => ?_
  cases a with
  | v d => exact Rp.mono f h
  | io i => exact h
def GoodA (X : Cx) (cls : Nm) (Wx : WX) (C : Cfg) : List Ex → List Ar → Prop
  | [], [] => True
  | e :: es, .v e' :: as => Good X cls Wx C e e' ∧ GoodA X cls Wx C es as
  | e :: es, .io i :: as => PE X e (tVar i) ∧ GoodA X cls Wx C es as
  | _, _ => False
abbrev tAs (X : Cx) (cls : Nm) (Wx : WX) (C : Cfg) (as : List Ar) : TA := fun σ H Q => tM (zd X cls) Wx (pAs (zd X cls) σ) (denAs C as) σ H Q
theorem as_cons {e' : E} {as : List Ar} {σ : Sg} {H : Hp} {Q : List VV → Hp → Prop} (h : tAs X cls Wx C (.v e' :: as) σ H Q) : tCons (tF X cls Wx (fzM (den C e'))) (tAs X cls Wx C as) σ H Q := by
  obtain ⟨B, F, ρ, O, s, h⟩ := h
  have h' : Run (zd X cls) B Wx (pAs (zd X cls) σ) (M.bnd (fzM (den C e')) fun d => M.bnd (denAs C as) fun ds => M.ret (.v d :: ds)) σ F H ρ O Q := h
  exact ⟨B, F, ρ, O, s, h'.seq (early_As _ _) fun x v F1 H1 ρ1 O1 _ st p1 h2 => ⟨B, F1, ρ1, O1, st.sx, h2.seq (early_As _ _) fun xs vs F2 H2 ρ2 O2 _ st2 p2 h3 => h3.ret st2.sx (.cons (Rp.mono st2.ff p1) p2)⟩⟩
theorem as_io {i : Nat} {as : List Ar} {σ : Sg} {H : Hp} {Q : List VV → Hp → Prop} (h : tAs X cls Wx C (.io i :: as) σ H Q) : tCons (tVar i) (tAs X cls Wx C as) σ H Q := by
  obtain ⟨B, F, ρ, O, s, h⟩ := h
  have h' : Run (zd X cls) B Wx (pAs (zd X cls) σ) (M.bnd (hasIo i) fun _ => M.bnd (denAs C as) fun ds => M.ret (.io i :: ds)) σ F H ρ O Q := h
  cases q : ioAt i ρ with
  | none =>
    obtain ⟨r, ρ', hm, en⟩ := h'
    unfold M.bnd hasIo at hm
    simp only [q] at hm
    cases hm
  | some o =>
    have hv : ∃ v, σ[i]? = some (some v) := by
      unfold ioAt at q
      cases z : ρ[i]? with
      | none => rw [z] at q; cases q
      | some sl =>
        rw [z] at q
        cases sl with
        | own o m => obtain ⟨p, fp, a, _⟩ := s.sl.own_at z; exact ⟨_, a⟩
        | _ => cases q
    obtain ⟨v, hv⟩ := hv
    have h2 : Run (zd X cls) B Wx (pAs (zd X cls) σ) (M.bnd (denAs C as) fun ds => M.ret (.io i :: ds)) σ F H ρ O Q := h'.as (by
      unfold M.bnd hasIo
      simp only [q])
    exact ⟨v, hv, B, F, ρ, O, s, h2.seq (early_As _ _) fun xs vs F2 H2 ρ2 O2 _ st2 p2 h3 => h3.ret st2.sx (.cons hv p2)⟩
theorem pa_as : ∀ {es : List Ex} {as : List Ar}, es.any isStar = false → GoodA X cls Wx C es as → PA X es (tAs X cls Wx C as)
  | [], [], _, _ => pa_nil.mono fun σ H Q ⟨B, F, ρ, O, s, h⟩ => (show Run (zd X cls) B Wx (pAs (zd X cls) σ) (M.ret []) σ F H ρ O Q from h).ret s .nil
  | e :: es, .v e' :: as, hs, g => by
    rw [List.any_cons, Bool.or_eq_false_iff] at hs
    exact (pa_cons g.1.fz (pa_as hs.2 g.2) (star_cons hs.1)).mono fun σ H Q h => as_cons h
  | e :: es, .io i :: as, hs, g => by
    rw [List.any_cons, Bool.or_eq_false_iff] at hs
    exact (pa_cons g.1 (pa_as hs.2 g.2) (star_cons hs.1)).mono fun σ H Q h => as_io h
  | [], _ :: _, _, g => g.elim
  | e :: es, [], _, g => g.elim
theorem pk_as : ∀ {kws : List Keyword} {as : List Ar}, GoodA X cls Wx C (kwVals kws) as → PK X kws (tAs X cls Wx C as)
  | [], [], _ => ⟨fun pos pins s σ H Q I ⟨B, F, ρ, O, sx, h⟩ => pk_nil.run pos pins s σ H Q I ((show Run (zd X cls) B Wx (pAs (zd X cls) σ) (M.ret []) σ F H ρ O Q from h).ret sx .nil)⟩
  | ⟨nm, e, p⟩ :: kws, .v e' :: as, g => ⟨fun pos pins s σ H Q I h => (pk_cons (Good.fz g.1) (pk_as g.2)).run pos pins s σ H Q I (as_cons h)⟩
  | ⟨nm, e, p⟩ :: kws, .io i :: as, g => ⟨fun pos pins s σ H Q I h => (pk_cons g.1 (pk_as g.2)).run pos pins s σ H Q I (as_io h)⟩
  | [], _ :: _, g => g.elim
  | ⟨nm, e, p⟩ :: kws, [], g => g.elim
theorem goodA_split : ∀ {es es2 : List Ex} {as : List Ar}, GoodA X cls Wx C (es ++ es2) as → GoodA X cls Wx C es (as.take es.length) ∧ GoodA X cls Wx C es2 (as.drop es.length) ∧ (as.take es.length).length = es.length
  | [], _, as, g => ⟨by simp [GoodA], by simpa using g, by simp⟩
  | e :: es, es2, .v e' :: as, g => by
    obtain ⟨a, b, c⟩ := goodA_split (es := es) (es2 := es2) (as := as) g.2
    exact ⟨⟨g.1, a⟩, b, by simpa using c⟩
  | e :: es, es2, .io i :: as, g => by
    obtain ⟨a, b, c⟩ := goodA_split (es := es) (es2 := es2) (as := as) g.2
    exact ⟨⟨g.1, a⟩, b, by simpa using c⟩
  | e :: es, es2, [], g => g.elim
theorem bnd_assoc {α β γ : Type} (m : M α) (f : α → M β) (g : β → M γ) : M.bnd (M.bnd m f) g = M.bnd m fun a => M.bnd (f a) g := by
  funext ρ
  unfold M.bnd
  cases m ρ with
  | none => rfl
  | some r =>
    obtain ⟨r, ρ'⟩ := r
    cases r <;> rfl
theorem ret_bnd {α β : Type} (a : α) (f : α → M β) : M.bnd (M.ret a) f = f a := rfl
theorem denAs_app {γ : Type} {k : List AV → M γ} : ∀ (as bs : List Ar), M.bnd (denAs C (as ++ bs)) k = M.bnd (denAs C as) fun xs => M.bnd (denAs C bs) fun ys => k (xs ++ ys)
  | [], bs => by show M.bnd (denAs C bs) k = M.bnd (M.ret []) _; rw [ret_bnd]; rfl
  | .v e :: as, bs => by
    show M.bnd (M.bnd (fzM (den C e)) fun d => M.bnd (denAs C (as ++ bs)) fun ds => M.ret (.v d :: ds)) k = M.bnd (M.bnd (fzM (den C e)) fun d => M.bnd (denAs C as) fun ds => M.ret (.v d :: ds)) _
    simp only [bnd_assoc, ret_bnd]
    exact congrArg _ (funext fun _ => denAs_app as bs)
  | .io i :: as, bs => by
    show M.bnd (M.bnd (hasIo i) fun _ => M.bnd (denAs C (as ++ bs)) fun ds => M.ret (.io i :: ds)) k = M.bnd (M.bnd (hasIo i) fun _ => M.bnd (denAs C as) fun ds => M.ret (.io i :: ds)) _
    simp only [bnd_assoc, ret_bnd]
    exact congrArg _ (funext fun _ => denAs_app as bs)
/-! ### behind the arguments -/
/-- a call's arguments as they stand -/
theorem args_of {B : Base} {F H : Hp} {σ : Sg} {ρ : Env} {O : List Addr} (s : Sx (zd X cls) B F H σ ρ O) : ∀ {avs : List AV} {vs : List VV} {args : List Arg}, pAs (zd X cls) σ F H H ρ vs avs → avs.mapM (AV.arg ρ) = some args → (ioOf avs).length ≤ 1 →
    ∃ ios, ArgR (zd X cls) F H vs args ios ∧ ((ioOf avs = [] ∧ ios = []) ∨ ∃ i p fp o m, ioOf avs = [i] ∧ ios = [(p, fp)] ∧ ρ[i]? = some (.own o m) ∧ σ[i]? = some (some (L2.V.ref p)) ∧ OwnR (zd X cls) F H p fp o)
  | [], vs, args, p, h, _ => by
    cases p
    cases h
    exact ⟨[], .nil, .inl ⟨rfl, rfl⟩⟩
  | .v d :: avs, _, args, .cons (b := _) (l₁ := vs) r p, h, hl => by
    rw [List.mapM_cons] at h
    cases q : avs.mapM (AV.arg ρ) with
    | none => rw [q] at h; cases h
    | some ar =>
      rw [q] at h
      cases h
      obtain ⟨ios, a, b⟩ := args_of s (avs := avs) p q hl
      exact ⟨ios, .val r a, b⟩
  | .io i :: avs, _, args, .cons (l₁ := vs) r p, h, hl => by
    rw [List.mapM_cons] at h
    have hn : ioOf avs = [] := by
      have : (ioOf avs).length + 1 ≤ 1 := hl
      cases k : ioOf avs with
      | nil => rfl
      | cons a b => rw [k] at this; simp at this
    cases z : ρ[i]? with
    | none => rw [show AV.arg ρ (.io i) = none by show (ioAt i ρ).map Arg.o = _; unfold ioAt; rw [z]; rfl] at h; cases h
    | some sl =>
      cases sl with
      | own o m =>
        rw [show AV.arg ρ (.io i) = some (.o o) by show (ioAt i ρ).map Arg.o = _; unfold ioAt; rw [z]; rfl] at h
        cases q : avs.mapM (AV.arg ρ) with
        | none => rw [q] at h; cases h
        | some ar =>
          rw [q] at h
          cases h
          obtain ⟨ios, a, b⟩ := args_of s (avs := avs) p q (by rw [hn]; exact Nat.zero_le _)
          have e : ios = [] := by
            rcases b with ⟨_, e⟩ | ⟨i, _, _, _, _, e, _⟩
            · exact e
            · rw [hn] at e; cases e
          subst e
          obtain ⟨pp, fp, a1, w, _⟩ := s.sl.own_at z
          have hr : σ[i]? = some (some _) := r
          rw [a1] at hr
          cases hr
          exact ⟨[(pp, fp)], .io w (fun b hb q hq => nomatch hq) a, .inr ⟨i, pp, fp, o, m, by show i :: ioOf avs = [i]; rw [hn], rfl, z, a1, w.r⟩⟩
      | _ => rw [show AV.arg ρ (.io i) = none by show (ioAt i ρ).map Arg.o = _; unfold ioAt; rw [z]; rfl] at h; cases h
theorem putBack_one {i : Nat} {o o0 : Ob} {m : Bool} {ρ : Env} (h : ρ[i]? = some (.own o0 m)) : putBack [i] [o] ρ = some (.ok (), ρ.set i (.own o m)) := by
  show (match ρ[i]? with | some (.own _ m) => putBack [] [] (ρ.set i (.own o m)) | _ => none) = _
  rw [h]
  rfl
theorem putBack_more {i : Nat} {o a o0 : Ob} {b : List Ob} {m : Bool} {ρ : Env} (h : ρ[i]? = some (.own o0 m)) : putBack [i] (o :: a :: b) ρ = none := by
  show (match ρ[i]? with | some (.own _ m) => putBack [] (a :: b) (ρ.set i (.own o m)) | _ => none) = _
  rw [h]
  rfl
/-- what comes back from a call stands for what is computed -/
theorem back_call {B : Base} {F H : Hp} {σ : Sg} {ρ : Env} {O : List Addr} {Q : VV → Hp → Prop} {f : Nat} {avs : List AV} {vs : List VV} (s : Sx (zd X cls) B F H σ ρ O) (p : pAs (zd X cls) σ F H H ρ vs avs) (h : Run (zd X cls) B Wx (pW (zd X cls)) (callM C f avs) σ F H ρ O Q) : spF (zd X cls) (C.call f) vs H Q (fun cl dx H' => Wx cl dx σ H') := by
  obtain ⟨r, ρ', hm, en⟩ := h
  unfold callM at hm
  cases q : avs.mapM (AV.arg ρ) with
  | none => simp only [q] at hm; cases hm
  | some args =>
    simp only [q] at hm
    split at hm
    · rename_i hl
      obtain ⟨ios, ar, hio⟩ := args_of s p q hl
      unfold gotM at hm
      cases k : C.call f args with
      | none => simp only [k] at hm; cases hm
      | some res =>
        simp only [k] at hm
        obtain ⟨out, os⟩ := res
        rcases hio with ⟨e1, rfl⟩ | ⟨i, pp, fp, o, m, e1, rfl, hi, hσ, w⟩
        · rw [e1] at hm
          cases os with
          | cons a b => cases hm
          | nil =>
            cases out with
            | ex x =>
              cases hm
              exact ⟨F, args, [], .ex x, [], s.fh, s.tb, ar, k, fun cl dx F' H' fr xr => en F' H' O cl dx (Stp.gr s ⟨fr.ff, fun b u e n1 => fr.hh b u (fun _ hq => nomatch hq) e n1, fr.fh, fr.fn, fun _ => fr.tb, fr.ht⟩) xr⟩
            | ok w =>
              cases hm
              refine ⟨F, args, [], .ok w, [], s.fh, s.tb, ar, k, fun v F' H' fp fr wr nw => ?_⟩
              exact en v F' H' O (Stp.gr s ⟨fr.ff, fun b u e n1 => fr.hh b u (fun _ hq => nomatch hq) e n1, fr.fh, fr.fn, fun _ => fr.tb, fr.ht⟩) ⟨fp, wr, nw⟩
        · rw [e1] at hm
          cases os with
          | nil => cases hm
          | cons o' os =>
            cases os with
            | cons a b =>
              simp only [putBack_more hi] at hm
              cases hm
            | nil =>
              cases out with
              | ex x =>
                simp only [putBack_one hi] at hm
                cases hm
                refine ⟨F, args, _, .ex x, [o'], s.fh, s.tb, ar, k, fun cl dx F' H' fr xr => ?_⟩
                have new : Own (zd X cls) F' H' pp fp o' := by
                  cases fr.bk with
                  | cons a b => exact a
                exact en F' H' O _ dx (s.chgT hi hσ w fr.ff fr.fh (fun b u n e n1 => fr.hh b u (fun q hq => by simp at hq; subst hq; exact n) e n1) fr.fn fr.tb fr.ht new) xr
              | ok ww =>
                simp only [putBack_one hi] at hm
                cases hm
                refine ⟨F, args, _, .ok ww, [o'], s.fh, s.tb, ar, k, fun v F' H' fp' fr wr nw => ?_⟩
                have new : Own (zd X cls) F' H' pp fp o' := by
                  cases fr.bk with
                  | cons a b => exact a
                exact en v F' H' O (s.chgT hi hσ w fr.ff fr.fh (fun b u n e n1 => fr.hh b u (fun q hq => by simp at hq; subst hq; exact n) e n1) fr.fn fr.tb fr.ht new) ⟨fp', wr, nw⟩
    · cases hm
end
end Py
set_option Elab.async false
set_option linter.all false
set_option maxRecDepth 100000
set_option maxHeartbeats 4000000
/-! PyLf: a lambda without parameters handed to the law's own try. -/
namespace Py
open PySem PySem.Spec L2 PyProof.Rows LamX
section
variable {X : Cx} {pins : List (Addr × Obj)} {σ : L2.St} {F H HZ : Hp} {s s1 : Shared}
/-- the lambda is made: its code object is new, or found in the table -/
theorem lam_makeG {T : List (Addr × Str)} {c P : Addr} {q : Str} {params : Arguments} {body : Ex} {scope : Scope} {pos : Pos} {E : Value → Shared → Prop} {Q : Value → Shared → Prop} (I : Inv X pins σ H s) (TB : TabB X.base X.mg c P) (hcode : X.env.code = .ref c)
    (hq : X.env.qual ++ "<lambda>" = q) (hu : ∀ p ∈ T, p.1 = P → p.2 = q) (fh : Sub F H) (hT : TbAt F H P q) (hdef : defaultsOf params X.env = ([], [])) (hfree : ∀ y ∈ scope.names, y.2 = .free → ∃ c, X.env.cells.lookup y.1 = some c)
    (h : ∀ (f c' : Addr) (pm ctv : Value) (F1 H1 : Hp) (s' : Shared), Inv X pins σ H1 s' → Gr T F H F1 H1 →
      s'.heap.get? f = some (PySem.W.kla_obj "<lambda>" (X.env.qual ++ "<lambda>") params body scope (cloFrom X.env.cells scope.names []) pm c' ctv) → H1 f = none → f ∉ frs X.stack → H1 c' = some (CodeO c' (X.env.qual ++ "<lambda>")) → Q (.ref f) s') :
    wpAny (model X.prog X.w) X.A (eval (.Lambda params body scope pos) X.env) Q E s := by
  subst hq
  obtain ⟨nPF, ps, hP, ht, ha⟩ := hT
  refine PySem.W.kla_eval hdef ?_
  have bP : s.heap.BuiltinsAt X.mg P := TB.bm.keeps I.bk
  have hP' : s.heap.get? P = some { cls := .none, data := .fields ps } := I.hok P _ hP
  have nofr : ∀ f, s.heap.objs.size ≤ f → f ∉ frs X.stack := fun f hf z => by
    rcases List.mem_cons.mp (I.stkSub _ z) with e | e
    · have h1 := I.lt
      rw [← e] at h1
      exact Nat.lt_irrefl _ (Nat.lt_of_lt_of_le h1 hf)
    · exact I.nofs hf e
  cases hc : codeAmong pos ps.toList with
  | none =>
    refine PySem.W.kla_makeFunction (mg := X.mg) (c := c) (P := P) (ps := ps) (closure_ok hfree) I.ok.glob (I.mod.glob.keeps I.bk) hcode (TB.code.keeps I.bk) hP' ht hc TB.gP bP fun c' ctv h' tk hx hge hlt hrec htb => ?_
    obtain ⟨c2, oc, vs, t, e2, hoc, hd, hv⟩ := hrec
    cases e2
    have hsz : s.heap.objs.size ≤ h'.objs.size := Nat.le_trans hge (Nat.le_of_lt hlt)
    have nC : H c' = none := I.hok.fresh hge
    have nFC : F c' = none := sub_none fh nC
    have I1 := inv_table (t' := tk) (more := #[rawInt pos.line, rawInt pos.col, .ref c']) (h' := h'.push (PySem.W.kla_obj "<lambda>" (X.env.qual ++ "<lambda>") params body scope (cloFrom X.env.cells scope.names []) ((X.mg "__name__").getD .none) c' ctv)) I hP
      (fun b o hb e => Heap.get?_push_of_some _ (hx b o hb e)) (Heap.get?_push_of_some _ htb) hge ⟨oc, vs, t, Heap.get?_push_of_some _ hoc, hd, hv⟩
    have eL : (ps ++ #[rawInt pos.line, rawInt pos.col, .ref c']).toList = ps.toList ++ [rawInt pos.line, rawInt pos.col, .ref c'] := by simp
    refine h h'.objs.size c' ((X.mg "__name__").getD .none) ctv (upd F c' (CodeO c' (X.env.qual ++ "<lambda>"))) _ _ I1 ?_ (Heap.get?_push_size _ rfl) ?_ (nofr _ hsz) upd_same
    · have nPc : P ≠ c' := ne_of_none hP nC
      have ff : Sub F (upd F c' (CodeO c' (X.env.qual ++ "<lambda>"))) := fun b o e => by
        rw [upd_ne (ne_of_none e nFC)]
        exact e
      refine ⟨ff, fun b o e n => ?_, fun b o e => ?_, fun b e n => ?_, fun t p hp => ?_, fun P' ps' e => ?_⟩
      · rw [upd_ne (ne_of_none e nC), upd_ne (fun z => by subst z; rw [hP] at e; exact n ps (Option.some.inj e).symm)]
        exact e
      · by_cases z : b = c'
        · subst z
          rw [upd_same] at e ⊢
          exact e
        · rw [upd_ne z] at e ⊢
          rw [upd_ne (fun z => by subst z; rw [nPF] at e; cases e)]
          exact fh _ _ e
      · by_cases z : b = c'
        · subst z; exact nC
        · rw [upd_ne z] at e
          exact absurd n e
      · by_cases hb : p.1 = P
        · have hq := hu p hp hb
          rw [hq, hb]
          refine ⟨by rw [upd_ne nPc]; exact nPF, _, by rw [upd_ne nPc, upd_same], by rw [eL]; exact PySem.TriplesOk_snoc _ _ _ _ ht, fun p' cv hcv => ?_⟩
          rw [eL] at hcv
          rcases among_app _ ht hcv with z | z
          · obtain ⟨c0, e1, e2⟩ := ha p' cv z
            exact ⟨c0, e1, ff _ _ e2⟩
          · exact ⟨c', z, upd_same⟩
        · refine (t p hp).mono ff (fun n => ?_) fun ps' e => ?_
          · rw [upd_ne (fun z => by rw [z] at n; exact n nC)]
            exact (t p hp).1
          · rw [upd_ne (ne_of_none e nC), upd_ne hb]
            exact e
      · by_cases z : P' = P
        · subst z
          exact ⟨_, by rw [upd_ne nPc, upd_same]⟩
        · exact ⟨ps', by rw [upd_ne (ne_of_none e nC), upd_ne z]; exact e⟩
    · have n1 : h'.objs.size ≠ c' := Nat.ne_of_gt hlt
      have n2 : h'.objs.size ≠ P := Nat.ne_of_gt (Nat.lt_of_lt_of_le (Heap.lt_size hP') hsz)
      rw [upd_ne n1, upd_ne n2]
      exact I.hok.fresh hsz
  | some cv =>
    obtain ⟨c', e, hco⟩ := ha pos cv hc
    subst e
    refine PySem.W.kla_makeFunctionHit (mg := X.mg) (c := c) (P := P) (ps := ps) (closure_ok hfree) I.ok.glob (I.mod.glob.keeps I.bk) hcode (TB.code.keeps I.bk) hP' ht hc bP fun ctv h' tk hx hsz => ?_
    have I1 : Inv X pins σ H { s with heap := h'.push (PySem.W.kla_obj "<lambda>" (X.env.qual ++ "<lambda>") params body scope (cloFrom X.env.cells scope.names []) ((X.mg "__name__").getD .none) c' ctv), toks := tk } := I.kept fun b o e => Heap.get?_push_of_some _ (hx b o e)
    exact h h'.objs.size c' ((X.mg "__name__").getD .none) ctv F H _ I1 (Gr.rfl fh) (Heap.get?_push_size _ rfl) (I.hok.fresh hsz) (nofr _ hsz) (fh _ _ hco)
end
section
variable {X : Cx} {pins : List (Addr × Obj)} {σ : L2.St} {F H HZ : Hp} {s s1 : Shared}
/-- x(), in the def that got the lambda -/
theorem pe_actG {CXg : CXT} {Eg : XK} {Ng : List Str} {qg : Str} {sg : Scope} {g f c' : Addr} {cdg pm ctv : Value} {params : Arguments} {body : Ex} {scope : Scope} {k i : Nat} {a : Str} {pn : List (Addr × Obj)} {xe : Value → Shared → Prop} {W : WX} {E : XK} {tb : TE} {p1 p2 : Pos}
    (I : Inv X pins σ H s) (L : LamS X.env.scope scope) (hf : s.heap.get? f = some (PySem.W.kla_obj "<lambda>" (X.env.qual ++ "<lambda>") params body scope (cloFrom X.env.cells scope.names []) pm c' ctv)) (hfn : H f = none) (hfr : f ∉ frs X.stack)
    (hbind : bindArgs (PySem.W.kla_fn "<lambda>" (X.env.qual ++ "<lambda>") params body scope (cloFrom X.env.cells scope.names []) pm (.ref c') ctv) ⟨[], []⟩ = pure [])
    (tk : Takes ((cxOf CXg X.prog X.w X.K X.mg X.base Ng qg sg g cdg X.A X.stack s H Eg).tr pn xe) W) (hW : ∀ cls d σ' H', E cls d H' → W cls d σ' H') (hr : RoomG (k + 1) (X.A.deeper (envOfC qg sg s.heap.objs.size g cdg)))
    (hbody : ∀ (A : Around) (outer : List PySem.Env) (s : Shared) (H : Hp), RoomG k (A.deeper (lamEnv X scope s.heap.objs.size f c')) → PE (lamCx X A outer s H E scope f c') body tb)
    (hN : Ng[i]? = some a) (hv : Vis sg a) (hd : (a == ("__debug__" : Str)) = false) (hcd : (a == ("__classdict__" : Str)) = false) :
    PE ((cxOf CXg X.prog X.w X.K X.mg X.base Ng qg sg g cdg X.A X.stack s H Eg).tr pn xe) (.Call (.Name a p1) [] [] p2)
      (fun σZ HZ Q => σZ[i]? = some (some (.ref f)) ∧ HZ c' = some (CodeO c' (X.env.qual ++ "<lambda>")) ∧ tb σ HZ Q) := by
  refine ⟨fun pinsZ sZ σZ HZ Q IZ h => ?_⟩
  obtain ⟨hs, hc, ht⟩ := h
  refine wpAny_Call_Name_kw (thn ((pe_var (pos := p1) (i := i) hN hv hd hcd).run pinsZ sZ σZ HZ (fun v H1 => v = .ref f ∧ H1 = HZ) IZ ⟨.ref f, hs, rfl, rfl⟩) fun u s1 ⟨v, H1, I1, r1, q1⟩ => ?_)
  obtain ⟨ev, eH⟩ := q1
  subst ev
  rw [eH] at I1
  obtain rfl : u = Value.ref f := r1
  have of1 : s1.heap.get? f = some (PySem.W.kla_obj "<lambda>" (X.env.qual ++ "<lambda>") params body scope (cloFrom X.env.cells scope.names []) pm c' ctv) := I1.base.keep f _ hf hfn hfr (fun z => nomatch (show f ∈ ([] : List Addr) from z))
  refine PySem.W.callWith_F0 ⟨_, _, _, _, of1⟩ ?_
  have un : Un (frs X.stack) [] H HZ s.heap s1.heap := I1.base
  obtain ⟨⟨oc, vs, t, hoc, hdc, hvc⟩, _, _⟩ := I1.hok c' _ hc
  have rc : codeAny (model X.prog X.w) (X.A.deeper (envOfC qg sg s.heap.objs.size g cdg)) (.call (.ref f) ⟨[], []⟩) (CR (L2.CX X.prog X.w) (envOfC qg sg s.heap.objs.size g cdg :: X.stack) X.prog X.w HZ s1 Q E) s1 := by
    refine PySem.W.kla_callFunE hr.rm.depth of1 rfl L.co L.gen rfl ⟨c', oc, vs, t, rfl, hoc, hdc, hvc⟩ ?_
    rw [hbind]
    refine wpAny_pure (wpAny_newFunctionEnv (fun y hy => (L.own y hy).2) (fun y hy => absurd hy (by simp)) (fun h₁ hns hsb => ⟨I1.nolimit.fresh _ hsb, ?_⟩) L.kind)
    show codeAny _ _ (.expr body (lamEnv X scope s1.heap.objs.size f c')) _ _
    have kp : ∀ b o, s1.heap.get? b = some o → h₁.get? b = some o := fun b o e => hsb.extBut b o (Nat.ne_of_lt (Heap.lt_size e)) (Heap.get?_push_of_some _ e)
    have J : Inv (lamCx X (X.A.deeper (envOfC qg sg s.heap.objs.size g cdg)) (envOfC qg sg s.heap.objs.size g cdg :: X.stack) s1 HZ E scope f c') [] σ HZ { s1 with heap := h₁, toks := s1.toks + ([] : List (Str × Value)).length } :=
      lam_start2 I L I1.env0 hr.rm.hd un hns kp
    refine PySem.W.kla_codeExpr (wpAny_mono ((hbody _ _ s1 HZ (hr.deeper _)).run [] _ _ HZ Q J ht) (fun v s' hq => ?_) fun e s' hq => hq)
    obtain ⟨w', H', J', rv, q⟩ := hq
    exact ⟨w', H', J'.os, J'.bare, J'.base, J'.hok, rv, q⟩
  have hx : Passes (L2.CX X.prog X.w) ((cxOf CXg X.prog X.w X.K X.mg X.base Ng qg sg g cdg X.A X.stack s H Eg).tr pn xe) E := passes_call tk hW
  refine wpAny_call (codeAny_mono rc fun r s' hq => ?_)
  cases r with
  | error e => exact hx pinsZ σZ HZ s1 e s' I1 hq
  | ok fl =>
    cases fl with
    | ret u => exact I1.after hq
    | next => exact False.elim hq
    | brk => exact False.elim hq
    | cont => exact False.elim hq
end
/-- the law's own try: where it stands, what it catches -/
structure LerOk (K : PySem.W.Frag) (mg : Str → Option Value) (CS : Addr) (x : Str) : Prop where
  is : ∃ (a e n fe : Str) (g : Addr) (pg : Arguments) (sg : Scope) (dV kV doc pm cdv ct oc : Value) (an od : Option Addr) (osl : Array (Option Value)) (j : Nat) (p1 p2 p3 p4 p5 p6 p7 p8 p9 p10 p11 p12 p13 p14 : Pos),
    mg x = some (.ref g) ∧ PySem.W.keepIn K (.ref g) = true ∧ K.lookup g = some ⟨oc, od, .func (PySem.W.fnOf x x pg (leBody a e n fe j p1 p2 p3 p4 p5 p6 p7 p8 p9 p10 p11 p12 p13 p14) sg dV kV doc pm an cdv ct), osl⟩ ∧ PySem.W.codeIn K cdv x = true ∧
    L2.Binds K (PySem.W.fnOf x x pg (leBody a e n fe j p1 p2 p3 p4 p5 p6 p7 p8 p9 p10 p11 p12 p13 p14) sg dV kV doc pm an cdv ct) [a] [] ∧ FnScope [a, e, n] [a] sg ∧ sg.names.lookup fe = some .globalImplicit ∧ mg fe = some (.ref CS) ∧ (fe == ("__debug__" : Str)) = false ∧
    [a, e, n].Nodup ∧ Vis sg a ∧ sg.names.lookup e = some .local ∧ sg.names.lookup n = some .local ∧ okN a = true ∧ okN e = true ∧ okN n = true ∧ okN x = true
/-- x(lambda: body) -/
def tLamG (T : List (Addr × Str)) (P : Addr) (q : Str) (TT : (XK → Hp → VK → Prop) → Hp → VK → Prop) (t : XK → TE) : TE := fun σ H Q => ∃ F, Sub F H ∧ TbAt F H P q ∧ ∀ F1 H1, Gr T F H F1 H1 → TT (fun E H' Q' => t E σ H' Q') H1 Q
theorem okN_ne {x : Str} (h : okN x = true) : (x == ("__debug__" : Str)) = false ∧ (x == ("__classdict__" : Str)) = false := by
  unfold okN at h
  simp only [Bool.and_eq_true, Bool.not_eq_true'] at h
  exact ⟨h.1.1, h.1.2⟩
theorem pe_lamcallG {X : Cx} {T : List (Addr × Str)} {x q : Str} {c P CS : Addr} {k : Nat} {params : Arguments} {body : Ex} {scope : Scope} {t : XK → TE} {p lpos pos : Pos} (hg : Gl X x) (LO : LerOk X.K X.mg CS x)
    (TB : TabB X.base X.mg c P) (hcode : X.env.code = .ref c) (hq : X.env.qual ++ "<lambda>" = q) (hu : ∀ p ∈ T, p.1 = P → p.2 = q) (hr : RoomG (k + 2) X.A) (L : LamS X.env.scope scope) (hdef : defaultsOf params X.env = ([], []))
    (hbind : ∀ (q : Str) (cl : List (Str × Addr)) (pm cv ctv : Value), bindArgs (PySem.W.kla_fn "<lambda>" q params body scope cl pm cv ctv) ⟨[], []⟩ = pure [])
    (hbody : ∀ (A : Around) (outer : List PySem.Env) (s : Shared) (H : Hp) (E : XK) (f c' : Addr), RoomG k (A.deeper (lamEnv X scope s.heap.objs.size f c')) → PE (lamCx X A outer s H E scope f c') body (t E)) :
    PE X (.Call (.Name x p) [.Lambda params body scope lpos] [] pos) (tLamG T P q (TTerr X.K CS) t) := by
  obtain ⟨a, e, n, fe, g, pg, sg, dV, kV, doc, pm, cdv, ct, oc, an, od, osl, j, p1, p2, p3, p4, p5, p6, p7, p8, p9, p10, p11, p12, p13, p14, hm, hk, lk, hcg, hb, Sg, hge, hme, hde, nd, hva, le, ln, oa, oe, on, ox⟩ := LO.is
  refine ⟨fun pins s σ H Q I h => ?_⟩
  obtain ⟨F, fh, hT, h⟩ := h
  refine wpAny_Call_Name_kw (ld_glob I hg hm ?_ (okN_ne ox).1)
  refine PySem.W.callWith_K (h₀ := X.base) I.ok.mod.kin hk ?_ (by rfl) (by rfl)
  show wpAny _ _ (spliced ((false, eval (.Lambda params body scope lpos) X.env) :: backTo pos (starEach [] X.env))) _ _ s
  refine Calls.spliced_cons (lam_makeG (T := T) I TB hcode hq hu fh hT hdef (L.has I.ok) fun f c' pm' ctv F1 H1 s' I1 gr hf hfn hfr hco => ?_)
  refine Calls.spliced_nil ⟨I1.kIn, ?_⟩
  have rc : codeAny (model X.prog X.w) X.A (.call (.ref g) ⟨[.ref f], []⟩) (CR C8.CX0 X.stack X.prog X.w H1 s' Q C8.E0) s' := by
    refine run_ofS (N := [a, e, n]) (ps := [a]) (us := [.ref f]) (vs := [.ref f]) lk hcg Sg hr.rm I1.env0 (hb s' [.ref f] I1.kIn rfl) (.cons rfl .nil) rfl fun hr' => ?_
    have hrG : RoomG (k + 1) (X.A.deeper (envOfC x sg s'.heap.objs.size g cdv)) := hr.deeper _
    obtain ⟨t', ht', hq'⟩ := lerr_gives (x := x) (q := X.env.qual ++ "<lambda>") (g := g) (cdg := cdv) (j := j) (p1 := p1) (p2 := p2) (p3 := p3) (p4 := p4) (p5 := p5) (p6 := p6) (p7 := p7) (p8 := p8) (p9 := p9) (p10 := p10) (p11 := p11) (p12 := p12) (p13 := p13) (p14 := p14) hge hme hde nd le ln (okN_ne oe).1 (okN_ne oe).2 (okN_ne on).1 (okN_ne on).2
      f c' s' H1 Q (fun E H' Q' => t E σ H' Q') (fun W pn xe E p1 p2 tk hW => pe_actG (i := 0) I1 L hf hfn hfr (hbind _ _ _ _ _) tk hW hrG (fun A outer s H hr2 => hbody A outer s H E f c' hr2) rfl hva (okN_ne oa).1 (okN_ne oa).2) hco (h F1 H1 gr)
    exact ⟨t', ht'.nox, hq'⟩
  refine wpAny_call (codeAny_mono rc fun r s2 hq => ?_)
  cases r with
  | error e => exact (show False from hq).elim
  | ok fl =>
    cases fl with
    | ret u => exact I1.after hq
    | next => exact False.elim hq
    | brk => exact False.elim hq
    | cont => exact False.elim hq
section
variable {X : Cx} {cls : Nm} {Wx : WX} {C : Cfg}
theorem g_lerr0 (e' : E) (hl : C.lamOk = false) (e : Ex) : Good X cls Wx C e (.lerr e') := by
  have h0 : ∀ σ H Q, tE X cls Wx (den C (.lerr e')) σ H Q → False := fun σ H Q h => by
    obtain ⟨B, F, ρ, O, s, r, ρ', hm1, en⟩ := h
    have hm2 : (if C.lamOk = true then (match den C e' ρ with
      | some (.ok _, ρ') => some (.ok (.val .non), ρ')
      | some (.ex x, ρ') => if C.caught x.c then some (.ok (.val (.exc x.c x.fs x.xs)), ρ') else none
      | none => none) else none : Option (R W × Env)) = some (r, ρ') := by
      rw [← hm1]
      simp only [den] <;> rfl
    rw [hl] at hm2
    cases hm2
  exact ⟨⟨fun pins s σ H Q I h => (h0 σ H Q h).elim⟩, ⟨fun pins s σ H Q I h => (h0 _ _ _ h).elim⟩, fun i h => by cases h⟩
theorem g_lerr {T : List (Addr × Str)} {x q : Str} {c P CS : Addr} {k : Nat} {params : Arguments} {body : Ex} {e' : E} {scope : Scope} {p lpos pos : Pos} (hg : Gl X x) (LO : LerOk X.K X.mg CS x)
    (TB : TabB X.base X.mg c P) (hcode : X.env.code = .ref c) (hq : X.env.qual ++ "<lambda>" = q) (hm : (P, q) ∈ cls.T) (hu : ∀ p ∈ cls.T, p.1 = P → p.2 = q) (hr : RoomG (k + 2) X.A) (L : LamS X.env.scope scope) (hdef : defaultsOf params X.env = ([], []))
    (hbind : ∀ (q : Str) (cl : List (Str × Addr)) (pm cv ctv : Value), bindArgs (PySem.W.kla_fn "<lambda>" q params body scope cl pm cv ctv) ⟨[], []⟩ = pure [])
    (hl : C.lamOk = true) (hc : ∀ c, C.caught c = true → PySem.W.exmOne X.K (.ref (cls c)) (.ref CS) = some true)
    (hbody : ∀ (A : Around) (outer : List PySem.Env) (s : Shared) (H : Hp) (E : XK) (f c' : Addr), RoomG k (A.deeper (lamEnv X scope s.heap.objs.size f c')) → PE (lamCx X A outer s H E scope f c') body (tE (lamCx X A outer s H E scope f c') cls (fun cls dx _ H => E cls dx H) (den C e'))) :
    Good X cls Wx C (.Call (.Name x p) [.Lambda params body scope lpos] [] pos) (.lerr e') := by
  have pe : PE X (.Call (.Name x p) [.Lambda params body scope lpos] [] pos) (tE X cls Wx (den C (.lerr e'))) := by
    refine (pe_lamcallG (T := cls.T) (t := fun E => tE X cls (fun cls dx _ H => E cls dx H) (den C e')) hg LO TB hcode hq hu hr L hdef hbind hbody).mono fun σ H Q h => ?_
    obtain ⟨B, F, ρ, O, s, r, ρ', hm1, en⟩ := h
    refine ⟨F, s.fh, s.tb _ hm, fun F1 H1 gr => ?_⟩
    have s1 := s.grow gr
    have hm2 : (if C.lamOk = true then (match den C e' ρ with
      | some (.ok _, ρ') => some (.ok (.val .non), ρ')
      | some (.ex x, ρ') => if C.caught x.c then some (.ok (.val (.exc x.c x.fs x.xs)), ρ') else none
      | none => none) else none : Option (R W × Env)) = some (r, ρ') := by
      rw [← hm1]
      simp only [den] <;> rfl
    rw [if_pos hl] at hm2
    cases hd : den C e' ρ with
    | none => rw [hd] at hm2; cases hm2
    | some pr =>
      obtain ⟨r0, ρ0⟩ := pr
      rw [hd] at hm2
      cases r0 with
      | ok w =>
        cases hm2
        refine ⟨B, F1, ρ, O, s1, .ok w, _, hd, fun v F2 H2 O2 st pw => ⟨.non, rfl, ?_⟩⟩
        exact en .non F2 H2 O2 ((Stp.gr s gr).tr st) ⟨[], ⟨.non, rfl⟩, fun b hb => nomatch hb⟩
      | ex x =>
        have hm3 : (if C.caught x.c = true then some (.ok (.val (.exc x.c x.fs x.xs)), ρ0) else none : Option (R W × Env)) = some (r, ρ') := hm2
        by_cases hx : C.caught x.c = true
        · rw [if_pos hx] at hm3
          cases hm3
          refine ⟨B, F1, ρ, O, s1, .ex x, _, hd, fun F2 H2 O2 cl dx st xr => ?_⟩
          obtain ⟨rfl, xr⟩ := xr
          refine ⟨hc _ hx, _, rfl, fun b hb => ?_⟩
          have gr2 : Gr (zd X cls).cls.T F2 H2 (upd F2 b (ExD (cls x.c) dx b)) (upd H2 b (ExD (cls x.c) dx b)) := Gr.new st.sx.fh hb
          refine en (.ref b) _ _ O2 (((Stp.gr s gr).tr st).tr (Stp.gr st.sx gr2)) ⟨[], ⟨?_, rfl⟩, fun b hb => nomatch hb⟩
          rcases xr with ⟨rfl, e1, e2⟩ | ⟨d, vs, rfl, hd2, e1, l⟩
          · rw [e1, e2]
            exact .exc upd_same
          · exact .exd upd_same (gr2.ff _ _ hd2) e1 (l.mono gr2.ff)
        · rw [if_neg hx] at hm3
          cases hm3
  exact ⟨pe, pt_of pe (by intro _; rfl), fun i h => by cases h⟩
end
end Py
set_option Elab.async false
set_option linter.all false
set_option maxRecDepth 100000
set_option maxHeartbeats 4000000
/-! PyR: calls, as rules. -/
namespace Py
open PySem PySem.Spec L2 PySem.SeqAt PyProof.Rows
theorem kw_names {env : PySem.Env} {pos : Pos} : ∀ {kws : List Keyword} {ks : List Str}, kwNames kws = some ks → (backToKw pos (keywordEach kws env)).all (·.1.isSome) = true ∧ (backToKw pos (keywordEach kws env)).filterMap (·.1) = ks ∧ (backToKw pos (keywordEach kws env)).any (·.1.isNone) = false ∧ ks.length = kws.length
  | [], ks, h => by cases h; exact ⟨rfl, rfl, rfl, rfl⟩
  | ⟨none, e, p⟩ :: r, ks, h => by cases h
  | ⟨some x, e, p⟩ :: r, ks, h => by
    obtain ⟨kr, hr, rfl⟩ := Option.map_eq_some_iff.mp (show (kwNames r).map (x :: ·) = some ks from h)
    obtain ⟨a, b, c, d⟩ := kw_names (env := env) (pos := pos) hr
    refine ⟨?_, ?_, ?_, by simp [d]⟩
    · show (_ && (backToKw pos (keywordEach r env)).all (·.1.isSome)) = true
      rw [a]; rfl
    · show x :: (backToKw pos (keywordEach r env)).filterMap (·.1) = _
      rw [b]
    · show (_ || (backToKw pos (keywordEach r env)).any (·.1.isNone)) = false
      rw [c]; rfl
theorem pr_app {α β : Type} {F : α → β → Prop} : ∀ {a a' : List α} {b b' : List β}, Paired F a b → Paired F a' b' → Paired F (a ++ a') (b ++ b')
  | _, _, _, _, .nil, h => h
  | _, _, _, _, .cons r t, h => .cons r (pr_app t h)
section
variable {X : Cx} {cls : Nm} {Wx : WX} {C : Cfg}
theorem goodA_len : ∀ {es : List Ex} {as : List Ar}, GoodA X cls Wx C es as → as.length = es.length
  | [], [], _ => rfl
  | _ :: _, .v _ :: _, g => congrArg (· + 1) (goodA_len g.2)
  | _ :: _, .io _ :: _, g => congrArg (· + 1) (goodA_len g.2)
  | [], _ :: _, g => g.elim
  | _ :: _, [], g => g.elim
theorem kwVals_len : ∀ {kws : List Keyword}, (kwVals kws).length = kws.length
  | [] => rfl
  | ⟨_, _, _⟩ :: r => congrArg (· + 1) (kwVals_len (kws := r))
theorem denAs_len : ∀ {as : List Ar} {ds : List AV} {ρ ρ' : Env}, denAs C as ρ = some (.ok ds, ρ') → ds.length = as.length
  | [], ds, ρ, ρ', h => by
    have h' : (M.ret [] : M (List AV)) ρ = some (.ok ds, ρ') := h
    cases h'; rfl
  | .v e :: as, ds, ρ, ρ', h => by
    have h' : (M.bnd (fzM (den C e)) fun d => M.bnd (denAs C as) fun ds => M.ret (.v d :: ds)) ρ = some (.ok ds, ρ') := h
    unfold M.bnd at h'
    cases q : fzM (den C e) ρ with
    | none => simp only [q] at h'; cases h'
    | some r =>
      obtain ⟨r, ρ1⟩ := r
      cases r with
      | ex x => simp only [q] at h'; cases h'
      | ok d =>
        simp only [q] at h'
        cases q2 : denAs C as ρ1 with
        | none => simp only [q2] at h'; cases h'
        | some r2 =>
          obtain ⟨r2, ρ2⟩ := r2
          cases r2 with
          | ex x => simp only [q2] at h'; cases h'
          | ok dr =>
            simp only [q2] at h'
            cases h'
            exact congrArg (· + 1) (denAs_len q2)
  | .io i :: as, ds, ρ, ρ', h => by
    have h' : (M.bnd (hasIo i) fun _ => M.bnd (denAs C as) fun ds => M.ret (.io i :: ds)) ρ = some (.ok ds, ρ') := h
    unfold M.bnd at h'
    cases q : hasIo i ρ with
    | none => simp only [q] at h'; cases h'
    | some r =>
      obtain ⟨r, ρ1⟩ := r
      cases r with
      | ex x => simp only [q] at h'; cases h'
      | ok d =>
        simp only [q] at h'
        cases q2 : denAs C as ρ1 with
        | none => simp only [q2] at h'; cases h'
        | some r2 =>
          obtain ⟨r2, ρ2⟩ := r2
          cases r2 with
          | ex x => simp only [q2] at h'; cases h'
          | ok dr =>
            simp only [q2] at h'
            cases h'
            exact congrArg (· + 1) (denAs_len q2)
theorem g_call (tk : Takes X Wx) {x : Str} {p1 p : Pos} {es : List Ex} {kws : List Keyword} {ks ps : List Str} {as : List Ar} {f k : Nat} {a : Addr} {fd : FuncData} (okx : okN x = true) (gl : Gl X x) (hm : X.mg x = some (.ref a)) (hk : PySem.W.keepIn X.K (.ref a) = true)
    (F : FnG X.prog X.w X.K X.mg X.base k a fd ps (spF (zd X cls) (C.call f))) (hr : RoomG k X.A) (hks : kwNames kws = some ks) (hl : es.length + ks.length = ps.length)
    (hb : ∀ (s : Shared) (us ws : List Value), X.K.In s.heap → us.length = es.length → ws.length = ks.length → BindsTo s fd ⟨us, ks.zip ws⟩ (ps.zip (us ++ ws)))
    (hs : es.any isStar = false) (g : GoodA X cls Wx C (es ++ kwVals kws) as) : Good X cls Wx C (.Call (.Name x p1) es kws p) (.call f as) := by
  obtain ⟨o1, o2, o3⟩ := okN_of okx
  obtain ⟨g1, g2, gl1⟩ := goodA_split g
  obtain ⟨k1, k2, k3, k4⟩ := kw_names (env := X.env) (pos := p) hks
  have pe : PE X (.Call (.Name x p1) es kws p) (tE X cls Wx (den C (.call f as))) := by
    refine ⟨fun pins s σ H Q I h => ?_⟩
    have q0 : tAs X cls Wx C (as.take es.length) σ H fun vs H1 => tAs X cls Wx C (as.drop es.length) σ H1 fun zs H2 => (vs.length = es.length ∧ zs.length = ks.length) ∧ spF (zd X cls) (C.call f) (vs ++ zs) H2 Q (fun cl dx H' => Wx cl dx σ H') := by
      obtain ⟨B, F, ρ, O, sx, h1⟩ := h
      have h2 : Run (zd X cls) B Wx (pW (zd X cls)) (M.bnd (denAs C (as.take es.length ++ as.drop es.length)) fun vs => callM C f vs) σ F H ρ O Q := by
        rw [List.take_append_drop]
        exact h1
      rw [denAs_app] at h2
      refine ⟨B, F, ρ, O, sx, h2.seq (early_W _) fun xs vs F1 H1 ρ1 O1 hm1 st pp1 h3 => ⟨B, F1, ρ1, O1, st.sx, h3.seq (early_W _) fun ys zs F2 H2 ρ2 O2 hm2 st2 pp2 h4 => ⟨⟨?_, ?_⟩, ?_⟩⟩⟩
      · rw [Paired.length pp1, denAs_len hm1, gl1]
      · rw [Paired.length pp2, denAs_len hm2, goodA_len g2, kwVals_len, k4]
      · exact back_call st2.sx (pr_app (pp1.mono (H' := H2) (G' := H2) (ρ' := ρ2) st2.ff) pp2) h4
    have fin : ∀ (s1 : Shared) (H1 : Hp) (us : List Value) (vs : List VV), Inv X pins σ H1 s1 → Vals vs us → tAs X cls Wx C (as.drop es.length) σ H1 (fun zs H2 => (vs.length = es.length ∧ zs.length = ks.length) ∧ spF (zd X cls) (C.call f) (vs ++ zs) H2 Q (fun cl dx H' => Wx cl dx σ H')) →
        wpAny (model X.prog X.w) X.A (evalAll ((backToKw p (keywordEach kws X.env)).map (·.2))) (fun ws s2 => X.K.In s2.heap ∧ wpAny (model X.prog X.w) X.A (call (.ref a) ([] ++ us) (((backToKw p (keywordEach kws X.env)).filterMap (·.1)).zip ws)) (EP X pins σ Q) X.xe s2) X.xe s1 := by
      intro s1 H1 us vs I1 r q
      refine thn ((pk_as g2).run p pins s1 σ H1 _ I1 q) fun ws s2 ⟨zs, H2, I2, rz, ⟨hv, hz⟩, q2⟩ => ⟨I2.kIn, ?_⟩
      rw [k2]
      have r2 : Vals (vs ++ zs) (us ++ ws) := r.append rz
      have hus : us.length = es.length := by rw [← r.length]; exact hv
      have hws : ws.length = ks.length := by rw [← rz.length]; exact hz
      exact runG (us := us) tk F hr I2 (hb _ _ _ I2.kIn hus hws) (by rw [List.length_append, hus, hws]; exact hl) r2 q2
    refine wpAny_Call_Name_kw (ld_glob I gl hm ?_ o2)
    cases es with
    | nil =>
      refine PySem.W.callWith_KW0 (h₀ := X.base) I.ok.mod.kin hk k1 ?_ (by rw [k3]; rfl)
      obtain ⟨B, F, ρ, O, sx, h1⟩ := q0
      have q1 := (show Run (zd X cls) B Wx (pAs (zd X cls) σ) (M.ret []) σ F H ρ O _ from h1).ret sx .nil
      exact fin s H [] [] I .nil q1
    | cons e es =>
      have hs' := hs
      rw [List.any_cons, Bool.or_eq_false_iff] at hs'
      refine PySem.W.callWith_KW (h₀ := X.base) I.ok.mod.kin hk k1 (thn ((pa_as hs g1).run p pins s σ H _ I q0) fun us s1 ⟨vs, H1, I1, r, q⟩ => ?_) (by rw [k3, back_any hs]; rfl) (star_cons hs'.1)
      exact fin s1 H1 us vs I1 r q
  exact ⟨pe, pt_of pe (by intro _; rfl), fun i h => by cases h⟩
theorem meth_tree {o : Ex} {es : List Ex} {m : Str} {ap p : Pos} (h1 : isCall o = false) (h2 : es.any isStar = false) (h3 : (ap.endLine == p.line) = true) (h4 : es.length < 20) :
    eval (.Call (.Attribute o m ap) es [] p) X.env = (do
      let ov ← eval o X.env
      standAt ap.atName
      let (f, first) ← holding [ov] (getMethod ov m (do return (← importBound o X.env).getD true))
      callWith p f first (backTo p (starEach es X.env)) (backToKw p (keywordEach [] X.env))) := by
  have e : methodCallForm (es.length + ([] : List Keyword).length) (backTo p (starEach es X.env)) (backToKw p (keywordEach [] X.env)) = true := by
    rw [back_plain h2]
    unfold methodCallForm
    have e1 : (es.map fun e => (false, eval e X.env)).all (fun x => !x.1) = true := by simp
    rw [e1]
    show (true && true && decide (es.length + 0 + 0 < 30)) = true
    simp; omega
  have hp : methodCallPos true o X.env ap p = pure p := by
    unfold methodCallPos
    rw [h3]
    rfl
  rw [arm_eval_Call, base_ok h1]
  unfold methodCall
  rw [e, hp]
  rfl
/-- the values behind a receiver -/
theorem vals_args {F H : Hp} : ∀ {vs : List VV} {ds : List D}, RpL (zd X cls) F vs ds → ArgR (zd X cls) F H vs (ds.map .v) []
  | _, _, .nil => .nil
  | _, _, .cons r l => .val r (vals_args l)
theorem g_meth (tk : Takes X Wx) {o : Ex} {o' : E} {es : List Ex} {es' : List E} {m : Str} {ap p : Pos} {k : Nat} (h1 : isCall o = false) (h2 : es.any isStar = false) (h3 : (ap.endLine == p.line) = true) (h4 : es.length < 20) (hr : RoomG k X.A)
    (hf : ∀ c f, C.meth c m = some f → ∃ a fd ps, Cls X.K (cls c) ∧ Meth X.K (cls c) m a ∧ ps.length = C.arity f ∧ FnG X.prog X.w X.K X.mg X.base k a fd ps (spF (zd X cls) (C.call f)) ∧ ∀ (s : Shared) (us : List Value), X.K.In s.heap → us.length = ps.length → BindsTo s fd ⟨us, []⟩ (ps.zip us))
    (go : Good X cls Wx C o o') (g : Goods X cls Wx C es es') : Good X cls Wx C (.Call (.Attribute o m ap) es [] p) (.meth o' m es') := by
  have pe : PE X (.Call (.Attribute o m ap) es [] p) (tE X cls Wx (den C (.meth o' m es'))) := by
    refine ⟨fun pins s σ H Q I h => ?_⟩
    have hl := goods_len g
    obtain ⟨B, F, ρ, O, sx, h1'⟩ := (show tE X cls Wx (M.bnd (fzM (den C o')) fun x => M.bnd (M.lift (methOf C x m es'.length)) fun f => M.bnd (denEs C es') fun ds => methM C f x ds) σ H Q from h)
    have q0 : tF X cls Wx (fzM (den C o')) σ H fun x H1 => ∃ B F1 ρ1 O1 d f, Sx (zd X cls) B F1 H1 σ ρ1 O1 ∧ Rp (zd X cls) F1 x d ∧ methOf C d m es'.length = some f ∧ Run (zd X cls) B Wx (pW (zd X cls)) (M.bnd (denEs C es') fun ds => methM C f d ds) σ F1 H1 ρ1 O1 Q := by
      refine ⟨B, F, ρ, O, sx, h1'.seq (early_W _) fun x v F1 H1 ρ1 O1 _ st p1 h2 => ?_⟩
      obtain ⟨f, e, h3⟩ := h2.lift
      exact ⟨B, F1, ρ1, O1, x, f, st.sx, p1, e, h3⟩
    refine PySem.W.methodCall_KW (thn (go.fz.run pins s σ H _ I q0) fun u s1 ⟨x, H1, I1, rx, B1, F1, ρ1, O1, d, f, sx1, rp, hm, q1⟩ => ?_) (meth_tree h1 h2 h3 h4)
    have isIns : ∃ c fs ds0, d = .ins c fs ds0 ∧ C.meth c m = some f ∧ fs.contains m = false ∧ C.arity f = es'.length + 1 := by
      cases d with
      | ins c fs ds0 =>
        have hm' : (match C.meth c m with | some f => if (!fs.contains m && C.arity f == es'.length + 1) = true then some f else none | none => none) = some f := hm
        cases q : C.meth c m with
        | none => rw [q] at hm'; cases hm'
        | some f' =>
          rw [q] at hm'
          obtain ⟨z, e⟩ := ite_some hm'
          cases e
          rw [Bool.and_eq_true] at z
          exact ⟨c, fs, ds0, rfl, q, by simpa using z.1, by simpa using z.2⟩
      | _ => cases hm
    obtain ⟨c, fs, ds0, rfl, hcm, hnm, har⟩ := isIns
    obtain ⟨a, fd, ps, hc, hM, hps, FG, hb⟩ := hf c f hcm
    obtain ⟨a0, dx, vs0, rfl, ha, hvl, hvr⟩ := Sh.ins (.inl rp) sx1.fh
    obtain rfl : u = Value.ref a0 := rx
    have hno : (fs.zip vs0).lookup m = none := by
      rw [List.lookup_eq_none_iff]
      rintro ⟨x, y⟩ hxy
      have hx := (List.of_mem_zip hxy).1
      show (m != x) = true
      rw [bne_iff_ne]
      rintro rfl
      rw [List.contains_eq_mem] at hnm
      simp [hx] at hnm
    refine getmeth_ok I1 ha hc hM hno ?_
    have q2 : tM (zd X cls) Wx (pL (zd X cls)) (denEs C es') σ H1 fun vs H2 => vs.length = es.length ∧ spF (zd X cls) (C.call f) (.ref a0 :: vs) H2 Q (fun cl dx H' => Wx cl dx σ H') := by
      refine ⟨B1, F1, ρ1, O1, sx1, Run.seq (early_W _) q1 fun ds vs F2 H2 ρ2 O2 hm2 st2 p2 h3 => ⟨by rw [RpL.length p2, denEs_len hm2, hl], ?_⟩⟩
      obtain ⟨r, ρ', hm3, en⟩ := h3
      unfold methM gotM at hm3
      cases k : C.call f (.v (.ins c fs ds0) :: ds.map .v) with
      | none => simp only [k] at hm3; cases hm3
      | some res =>
        simp only [k] at hm3
        obtain ⟨out, os⟩ := res
        cases os with
        | cons _ _ => cases hm3
        | nil =>
          cases out with
          | ex x =>
            cases hm3
            exact ⟨F2, _, [], .ex x, [], st2.sx.fh, st2.sx.tb, .val (Rp.mono st2.ff rp) (vals_args p2), k, fun cl dx F' H' fr xr => en F' H' O2 cl dx (Stp.gr st2.sx ⟨fr.ff, fun b u e n1 => fr.hh b u (fun _ hq => nomatch hq) e n1, fr.fh, fr.fn, fun _ => fr.tb, fr.ht⟩) xr⟩
          | ok w =>
            cases hm3
            exact ⟨F2, _, [], .ok w, [], st2.sx.fh, st2.sx.tb, .val (Rp.mono st2.ff rp) (vals_args p2), k, fun v F' H' fp fr wr nw => en v F' H' O2 (Stp.gr st2.sx ⟨fr.ff, fun b u e n1 => fr.hh b u (fun _ hq => nomatch hq) e n1, fr.fh, fr.fn, fun _ => fr.tb, fr.ht⟩) ⟨fp, wr, nw⟩⟩
    cases es with
    | nil =>
      obtain ⟨B2, F2, ρ2, O2, sx2, h4⟩ := q2
      cases es' with
      | cons _ _ => exact g.elim
      | nil =>
        have q3 := (show Run (zd X cls) B2 Wx (pL (zd X cls)) (M.ret []) σ F2 H1 ρ2 O2 _ from h4).ret sx2 .nil
        have e1 : [Value.ref a0].length = ps.length := by rw [hps, har]; rfl
        exact PySem.W.callWith_K0 (first := [.ref a0]) I1.kIn hM.kp (runG tk (ks := []) (us := [.ref a0]) (ws := []) FG hr I1 (hb _ _ I1.kIn e1) e1 (Paired.cons (show RelV (.ref a0) (.ref a0) from rfl) .nil) q3.2)
    | cons e es =>
      have hs' := h2
      rw [List.any_cons, Bool.or_eq_false_iff] at hs'
      refine PySem.W.callWith_K (first := [.ref a0]) (h₀ := X.base) I.ok.mod.kin hM.kp (thn ((pa_es h2 g).run p pins s1 σ H1 _ I1 q2) fun us s2 ⟨vs, H2, I2, r, hv, q3⟩ => ⟨I2.kIn, ?_⟩) (star_cons hs'.1) (back_any hs'.2)
      have e1 : (Value.ref a0 :: us).length = ps.length := by rw [List.length_cons, ← r.length, hv, hps, har, hl]
      have rr : Vals (.ref a0 :: vs) ((Value.ref a0 :: us) ++ []) := by rw [List.append_nil]; exact Paired.cons (show RelV (.ref a0) (.ref a0) from rfl) r
      exact runG tk (ks := []) (us := .ref a0 :: us) (ws := []) FG hr I2 (by rw [List.append_nil]; exact hb _ _ I2.kIn e1) (by rw [List.append_nil]; exact e1) rr q3
  exact ⟨pe, pt_of pe (by intro _; rfl), fun i h => by cases h⟩
/-- C(e, ..) -/
theorem g_make {x : Str} {p1 p : Pos} {es : List Ex} {es' : List E} {c k : Nat} {a : Addr} {fd : FuncData} {ps : List Str} {f : Nat} (okx : okN x = true) (gl : Gl X x) (hm : X.mg x = some (.ref (cls c))) (hMk : Mk X.K (cls c) a) (hr : RoomG (k + 1) X.A) (hi : C.init c = some f)
    (F : FnG X.prog X.w X.K X.mg X.base k a fd ps (spF (zd X cls) (C.call f))) (hl : ps.length = es.length + 1) (hb : ∀ (s : Shared) (us : List Value), X.K.In s.heap → us.length = ps.length → BindsTo s fd ⟨us, []⟩ (ps.zip us))
    (hs : es.any isStar = false) (g : Goods X cls Wx C es es') : Good X cls Wx C (.Call (.Name x p1) es [] p) (.make c es') := by
  obtain ⟨o1, o2, o3⟩ := okN_of okx
  have hgl := goods_len g
  have pe : PE X (.Call (.Name x p1) es [] p) (tE X cls Wx (den C (.make c es'))) := by
    refine ⟨fun pins s σ H Q I h => ?_⟩
    have q0 : tM (zd X cls) Wx (pL (zd X cls)) (denEs C es') σ H fun vs H1 => vs.length = es.length ∧ ∀ x dx, H1 x = none → H1 dx = none → dx ≠ x → spF (zd X cls) (C.call f) (.ref x :: vs) (upd (upd H1 dx (.own x)) x (.ins (cls c) dx [])) (fun v H2 => v = .non ∧ Q (.ref x) H2) (fun _ _ _ => False) := by
      obtain ⟨B, F, ρ, O, sx, h1⟩ := (show tE X cls Wx (M.bnd (denEs C es') fun ds => makeM C c ds) σ H Q from h)
      refine ⟨B, F, ρ, O, sx, h1.seq (early_W _) fun ds vs F1 H1 ρ1 O1 hm1 st p1 h2 => ⟨by rw [RpL.length p1, denEs_len hm1, hgl], fun x dx hx hdx hne => ?_⟩⟩
      obtain ⟨r, ρ', hm2, en⟩ := h2
      unfold makeM at hm2
      rw [hi] at hm2
      simp only at hm2
      split at hm2
      · cases q : C.call f (.o (.ins c [] []) :: ds.map .v) with
        | none => rw [q] at hm2; cases hm2
        | some res =>
          rw [q] at hm2
          obtain ⟨out, os⟩ := res
          have hout : ∃ o, out = .ok (.val .non) ∧ os = [o] ∧ r = .ok (.own o) ∧ ρ' = ρ1 := by
            cases out with
            | ex _ => cases hm2
            | ok w =>
              cases w with
              | own _ => cases hm2
              | val d =>
                cases d with
                | non =>
                  cases os with
                  | nil => cases hm2
                  | cons o os =>
                    cases os with
                    | cons _ _ => cases hm2
                    | nil => cases hm2; exact ⟨o, rfl, rfl, rfl, rfl⟩
                | _ => cases hm2
          obtain ⟨o, rfl, rfl, rfl, rfl⟩ := hout
          have H2e : ∀ b u, H1 b = some u → upd (upd H1 dx (.own x)) x (.ins (cls c) dx []) b = some u := fun b u e => by
            rw [upd_ne (ne_of_none e hx), upd_ne (ne_of_none e hdx)]; exact e
          have nF : ∀ b ∈ [x, dx], F1 b = none := fun b hb => by
            simp at hb
            rcases hb with rfl | rfl
            · exact sub_none st.sx.fh hx
            · exact sub_none st.sx.fh hdx
          have fsub : Sub F1 (upd (upd H1 dx (.own x)) x (.ins (cls c) dx [])) := fun b u e => H2e b u (st.sx.fh b u e)
          have ow : Own (zd X cls) F1 (upd (upd H1 dx (.own x)) x (.ins (cls c) dx [])) x [x, dx] (.ins c [] []) :=
            ⟨⟨dx, [], rfl, upd_same, by rw [upd_ne hne, upd_same], rfl, .nil⟩, nF, by simp [Ne.symm hne]⟩
          refine ⟨F1, _, [(x, [x, dx])], .ok (.val .non), [o], fsub, fun p hp => (st.sx.tb p hp).mono Sub.rfl (fun _ => (st.sx.tb p hp).1) fun ps e => H2e _ _ e, .io ow (fun b hb q hq => nomatch hq) (vals_args p1), q, fun v F' H' fp fr wr nw => ?_⟩
          obtain ⟨rv, _⟩ := wr
          refine ⟨by cases rv; rfl, ?_⟩
          have new : Own (zd X cls) F' H' x [x, dx] o := by
            cases fr.bk with
            | cons a b => exact a
          have hold : ∀ b u, H1 b = some u → NT u → H' b = some u := fun b u e n1 => fr.hh b u (fun q hq => by
            simp at hq
            subst hq
            intro hb
            simp at hb
            rcases hb with rfl | rfl
            · rw [hx] at e; cases e
            · rw [hdx] at e; cases e) (H2e b u e) n1
          have fnn : ∀ b, F' b ≠ none → F1 b = none → H1 b = none := fun b h1 h2 => by
            have := fr.fn b h1 h2
            cases z : H1 b with
            | none => rfl
            | some u => rw [H2e b u z] at this; cases this
          exact en (.ref x) F' H' O1 (Stp.gr st.sx ⟨fr.ff, hold, fr.fh, fnn, fun _ => fr.tb, fun P ps e => fr.ht P ps (H2e P _ e)⟩) ⟨[x, dx], ⟨x, rfl, new⟩, fun b hb => by
            simp at hb
            rcases hb with rfl | rfl
            · exact hx
            · exact hdx⟩
      · cases hm2
    have bb : ∀ (us : List Value), us.length = es.length → ∀ (s : Shared) (u : Value), X.K.In s.heap → BindsTo s fd ⟨u :: us, []⟩ (ps.zip (u :: us)) := fun us hu s u hk => hb s (u :: us) hk (by rw [List.length_cons, hu, hl])
    refine wpAny_Call_Name_kw (ld_glob I gl hm ?_ o2)
    cases es with
    | nil =>
      obtain ⟨B2, F2, ρ2, O2, sx2, h4⟩ := q0
      cases es' with
      | cons _ _ => exact g.elim
      | nil =>
        have q3 := (show Run (zd X cls) B2 Wx (pL (zd X cls)) (M.ret []) σ F2 H ρ2 O2 _ from h4).ret sx2 .nil
        exact PySem.W.callWith_K0 I.kIn hMk.kp (makeG (us := []) hMk F hr I (bb [] rfl) (by rw [hl]; rfl) .nil q3.2)
    | cons e es =>
      have hs' := hs
      rw [List.any_cons, Bool.or_eq_false_iff] at hs'
      refine PySem.W.callWith_K (h₀ := X.base) I.ok.mod.kin hMk.kp (thn ((pa_es hs g).run p pins s σ H _ I q0) fun us s2 ⟨vs, H2, I2, r, hv, q3⟩ => ⟨I2.kIn, ?_⟩) (star_cons hs'.1) (back_any hs'.2)
      have e1 : us.length = (e :: es).length := by rw [← r.length, hv]
      exact makeG (us := us) hMk F hr I2 (bb us e1) (by rw [e1, hl]) r q3
  exact ⟨pe, pt_of pe (by intro _; rfl), fun i h => by cases h⟩
end
end Py
set_option Elab.async false
set_option linter.all false
set_option maxRecDepth 100000
set_option maxHeartbeats 4000000
/-! PyRb: calls whose arguments are named in another order. -/
namespace Py
open PySem PySem.Spec L2 PySem.SeqAt PyProof.Rows
theorem paired_at {α β : Type} {F : α → β → Prop} : ∀ {a : List α} {b : List β}, Paired F a b → ∀ i : Nat, (a[i]? = none ∧ b[i]? = none) ∨ ∃ x y, a[i]? = some x ∧ b[i]? = some y ∧ F x y
  | [], [], .nil, i => .inl ⟨by simp, by simp⟩
  | x :: a, y :: b, .cons r t, 0 => .inr ⟨x, y, rfl, rfl, r⟩
  | x :: a, y :: b, .cons r t, i + 1 => by simpa using paired_at t i
theorem paired_perm {α β : Type} {F : α → β → Prop} {a : List α} {b : List β} : ∀ pm : List Nat, Paired F a b → Paired F (permL pm a) (permL pm b)
  | [], _ => .nil
  | i :: pm, h => by
    have ih := paired_perm pm h
    rcases paired_at h i with ⟨e1, e2⟩ | ⟨x, y, e1, e2, r⟩
    · show Paired F (List.filterMap _ (i :: pm)) (List.filterMap _ (i :: pm))
      rw [List.filterMap_cons, List.filterMap_cons, e1, e2]
      exact ih
    · show Paired F (List.filterMap _ (i :: pm)) (List.filterMap _ (i :: pm))
      rw [List.filterMap_cons, List.filterMap_cons, e1, e2]
      exact .cons r ih
section
variable {X : Cx} {k : Nat} {f : Addr} {fd : FuncData} {ps ks : List Str} {sp : List VV → Hp → VK → XK → Prop} {pins : List (Addr × Obj)} {σ : Sg} {H : Hp} {s : Shared}
theorem runGP {us ws us' : List Value} {vs : List VV} {Q : VK} {W : WX} (tk : Takes X W) (F : FnG X.prog X.w X.K X.mg X.base k f fd ps sp) (hr : RoomG k X.A) (I : Inv X pins σ H s)
    (hb : BindsTo s fd ⟨us, ks.zip ws⟩ (ps.zip us')) (hl : us'.length = ps.length) (r : Vals vs us') (h : sp vs H Q (fun cls dx H' => W cls dx σ H')) :
    wpAny (model X.prog X.w) X.A (call (.ref f) us (ks.zip ws)) (EP X pins σ Q) X.xe s := by
  refine wpAny_call (codeAny_mono (F X.A X.stack s H _ _ vs Q _ hr I.env0 hl hb r h) fun rr s' hq => ?_)
  cases rr with
  | error e => exact passAt tk σ pins H s e s' I hq
  | ok fl =>
    cases fl with
    | ret u => exact I.after hq
    | next => exact False.elim hq
    | brk => exact False.elim hq
    | cont => exact False.elim hq
end
section
variable {X : Cx} {cls : Nm} {Wx : WX} {C : Cfg}
theorem g_callP (tk : Takes X Wx) {x : Str} {p1 p : Pos} {es : List Ex} {kws : List Keyword} {ks ps : List Str} {as : List Ar} {pm : List Nat} {f k : Nat} {a : Addr} {fd : FuncData} (okx : okN x = true) (gl : Gl X x) (hm : X.mg x = some (.ref a)) (hk : PySem.W.keepIn X.K (.ref a) = true)
    (F : FnG X.prog X.w X.K X.mg X.base k a fd ps (spF (zd X cls) (C.call f))) (hr : RoomG k X.A) (hks : kwNames kws = some ks) (hl : es.length + ks.length = ps.length)
    (hb : ∀ (s : Shared) (us ws : List Value), X.K.In s.heap → us.length = es.length → ws.length = ks.length → BindsTo s fd ⟨us, ks.zip ws⟩ (ps.zip (permL pm (us ++ ws))) ∧ (permL pm (us ++ ws)).length = ps.length)
    (hs : es.any isStar = false) (g : GoodA X cls Wx C (es ++ kwVals kws) as) : Good X cls Wx C (.Call (.Name x p1) es kws p) (.callP f pm as) := by
  obtain ⟨o1, o2, o3⟩ := okN_of okx
  obtain ⟨g1, g2, gl1⟩ := goodA_split g
  obtain ⟨k1, k2, k3, k4⟩ := kw_names (env := X.env) (pos := p) hks
  have pe : PE X (.Call (.Name x p1) es kws p) (tE X cls Wx (den C (.callP f pm as))) := by
    refine ⟨fun pins s σ H Q I h => ?_⟩
    have q0 : tAs X cls Wx C (as.take es.length) σ H fun vs H1 => tAs X cls Wx C (as.drop es.length) σ H1 fun zs H2 => (vs.length = es.length ∧ zs.length = ks.length) ∧ spF (zd X cls) (C.call f) (permL pm (vs ++ zs)) H2 Q (fun cl dx H' => Wx cl dx σ H') := by
      obtain ⟨B, F, ρ, O, sx, h1⟩ := h
      have h2 : Run (zd X cls) B Wx (pW (zd X cls)) (M.bnd (denAs C (as.take es.length ++ as.drop es.length)) fun vs => callM C f (permL pm vs)) σ F H ρ O Q := by
        rw [List.take_append_drop]
        exact h1
      rw [denAs_app] at h2
      refine ⟨B, F, ρ, O, sx, h2.seq (early_W _) fun xs vs F1 H1 ρ1 O1 hm1 st pp1 h3 => ⟨B, F1, ρ1, O1, st.sx, h3.seq (early_W _) fun ys zs F2 H2 ρ2 O2 hm2 st2 pp2 h4 => ⟨⟨?_, ?_⟩, ?_⟩⟩⟩
      · rw [Paired.length pp1, denAs_len hm1, gl1]
      · rw [Paired.length pp2, denAs_len hm2, goodA_len g2, kwVals_len, k4]
      · exact back_call st2.sx (paired_perm pm (pr_app (pp1.mono (H' := H2) (G' := H2) (ρ' := ρ2) st2.ff) pp2)) h4
    have fin : ∀ (s1 : Shared) (H1 : Hp) (us : List Value) (vs : List VV), Inv X pins σ H1 s1 → Vals vs us → tAs X cls Wx C (as.drop es.length) σ H1 (fun zs H2 => (vs.length = es.length ∧ zs.length = ks.length) ∧ spF (zd X cls) (C.call f) (permL pm (vs ++ zs)) H2 Q (fun cl dx H' => Wx cl dx σ H')) →
        wpAny (model X.prog X.w) X.A (evalAll ((backToKw p (keywordEach kws X.env)).map (·.2))) (fun ws s2 => X.K.In s2.heap ∧ wpAny (model X.prog X.w) X.A (call (.ref a) ([] ++ us) (((backToKw p (keywordEach kws X.env)).filterMap (·.1)).zip ws)) (EP X pins σ Q) X.xe s2) X.xe s1 := by
      intro s1 H1 us vs I1 r q
      refine thn ((pk_as g2).run p pins s1 σ H1 _ I1 q) fun ws s2 ⟨zs, H2, I2, rz, ⟨hv, hz⟩, q2⟩ => ⟨I2.kIn, ?_⟩
      rw [k2]
      have r2 : Vals (vs ++ zs) (us ++ ws) := r.append rz
      have hus : us.length = es.length := by rw [← r.length]; exact hv
      have hws : ws.length = ks.length := by rw [← rz.length]; exact hz
      exact runGP (us := us) tk F hr I2 (hb _ _ _ I2.kIn hus hws).1 (hb _ _ _ I2.kIn hus hws).2 (paired_perm pm r2) q2
    refine wpAny_Call_Name_kw (ld_glob I gl hm ?_ o2)
    cases es with
    | nil =>
      refine PySem.W.callWith_KW0 (h₀ := X.base) I.ok.mod.kin hk k1 ?_ (by rw [k3]; rfl)
      obtain ⟨B, F, ρ, O, sx, h1⟩ := q0
      have q1 := (show Run (zd X cls) B Wx (pAs (zd X cls) σ) (M.ret []) σ F H ρ O _ from h1).ret sx .nil
      exact fin s H [] [] I .nil q1
    | cons e es =>
      have hs' := hs
      rw [List.any_cons, Bool.or_eq_false_iff] at hs'
      refine PySem.W.callWith_KW (h₀ := X.base) I.ok.mod.kin hk k1 (thn ((pa_as hs g1).run p pins s σ H _ I q0) fun us s1 ⟨vs, H1, I1, r, q⟩ => ?_) (by rw [k3, back_any hs]; rfl) (star_cons hs'.1)
      exact fin s1 H1 us vs I1 r q
  exact ⟨pe, pt_of pe (by intro _; rfl), fun i h => by cases h⟩
end
end Py
set_option Elab.async false
set_option linter.all false
set_option maxRecDepth 100000
set_option maxHeartbeats 4000000
/-! PyRc: calls whose last argument is a new dict. -/
namespace Py
open PySem PySem.Spec L2 PySem.SeqAt PyProof.Rows
section
variable {X : Cx} {cls : Nm} {Wx : WX} {C : Cfg}
theorem pa_esN {dp : Pos} : ∀ {es : List Ex} {es' : List E}, es.any isStar = false → Goods X cls Wx C es es' →
    PA X (es ++ [(PySem.Expr.Dict [] [] dp : Ex)]) (fun σ H Q => tM (zd X cls) Wx (pL (zd X cls)) (denEs C es') σ H fun vs H1 => ∀ q, H1 q = none → Q (vs ++ [.ref q]) (upd H1 q (.dK [])))
  | [], [], _, _ => (pa_cons (e := .Dict [] [] dp) pe_dnewK pa_nil).mono fun σ H Q ⟨B, F, ρ, O, s, h⟩ => by
    have q1 := (show Run (zd X cls) B Wx (pL (zd X cls)) (M.ret []) σ F H ρ O _ from h).ret s .nil
    intro q hq
    exact q1 q hq
  | e :: es, e' :: es', hs, g => by
    rw [List.any_cons, Bool.or_eq_false_iff] at hs
    refine (pa_cons g.1.fz (pa_esN hs.2 g.2) (star_cons hs.1)).mono fun σ H Q ⟨B, F, ρ, O, s, h⟩ => ?_
    have h' : Run (zd X cls) B Wx (pL (zd X cls)) (M.bnd (fzM (den C e')) fun d => M.bnd (denEs C es') fun ds => M.ret (d :: ds)) σ F H ρ O _ := h
    exact ⟨B, F, ρ, O, s, h'.seq (early_L _) fun x v F1 H1 ρ1 O1 _ st p1 h2 => ⟨B, F1, ρ1, O1, st.sx, h2.seq (early_L _) fun xs vs F2 H2 ρ2 O2 _ st2 p2 h3 => h3.ret st2.sx (.cons (Rp.mono st2.ff p1) p2)⟩⟩
  | [], _ :: _, _, g => g.elim
  | _ :: _, [], _, g => g.elim
theorem argR_app {Z : Wd} {F H : Hp} {p : Addr} {fp : List Addr} {o : Ob} (w : Own Z F H p fp o) : ∀ {vs : List VV} {ds : List D}, RpL Z F vs ds → ArgR Z F H (vs ++ [.ref p]) (ds.map .v ++ [.o o]) [(p, fp)]
  | _, _, .nil => .io w (fun b hb q hq => nomatch hq) .nil
  | _, _, .cons r l => .val r (argR_app w l)
theorem g_callN (tk : Takes X Wx) {x : Str} {p1 p dp : Pos} {es : List Ex} {es' : List E} {ps : List Str} {f k : Nat} {a : Addr} {fd : FuncData} (okx : okN x = true) (gl : Gl X x) (hm : X.mg x = some (.ref a)) (hk : PySem.W.keepIn X.K (.ref a) = true)
    (F : FnG X.prog X.w X.K X.mg X.base k a fd ps (spF (zd X cls) (C.call f))) (hr : RoomG k X.A) (hl : (es ++ [(PySem.Expr.Dict [] [] dp : Ex)]).length = ps.length)
    (hb : ∀ (s : Shared) (us : List Value), X.K.In s.heap → us.length = ps.length → BindsTo s fd ⟨us, []⟩ (ps.zip us))
    (hs : es.any isStar = false) (g : Goods X cls Wx C es es') : Good X cls Wx C (.Call (.Name x p1) (es ++ [(PySem.Expr.Dict [] [] dp : Ex)]) [] p) (.callN f es') := by
  obtain ⟨o1, o2, o3⟩ := okN_of okx
  have hgl := goods_len g
  have pe : PE X (.Call (.Name x p1) (es ++ [(PySem.Expr.Dict [] [] dp : Ex)]) [] p) (tE X cls Wx (den C (.callN f es'))) := by
    refine ⟨fun pins s σ H Q I h => ?_⟩
    have q0 : tM (zd X cls) Wx (pL (zd X cls)) (denEs C es') σ H fun vs H1 => ∀ x, H1 x = none → vs.length = es.length ∧ spF (zd X cls) (C.call f) (vs ++ [.ref x]) (upd H1 x (.dK [])) Q (fun cl dx H' => Wx cl dx σ H') := by
      obtain ⟨B, F, ρ, O, sx, h1⟩ := (show tE X cls Wx (M.bnd (denEs C es') fun ds => callNM C f ds) σ H Q from h)
      refine ⟨B, F, ρ, O, sx, h1.seq (early_W _) fun ds vs F1 H1 ρ1 O1 hm1 st p1 h2 => fun x hx => ⟨by rw [RpL.length p1, denEs_len hm1, hgl], ?_⟩⟩
      obtain ⟨r, ρ', hm2, en⟩ := h2
      unfold callNM at hm2
      cases q : C.call f (ds.map .v ++ [.o (.dic [] [])]) with
      | none => rw [q] at hm2; cases hm2
      | some res =>
        rw [q] at hm2
        obtain ⟨out, os⟩ := res
        have hout : ∃ d o, out = .ok (.val d) ∧ os = [o] ∧ r = .ok (.val d) ∧ ρ' = ρ1 := by
          cases out with
          | ex _ => cases hm2
          | ok w =>
            cases w with
            | own _ => cases hm2
            | val d =>
              cases os with
              | nil => cases hm2
              | cons o os =>
                cases os with
                | cons _ _ => cases hm2
                | nil => cases hm2; exact ⟨d, o, rfl, rfl, rfl, rfl⟩
        obtain ⟨d, o, rfl, rfl, rfl, rfl⟩ := hout
        have H2e : ∀ b u, H1 b = some u → upd H1 x (.dK []) b = some u := fun b u e => by
          rw [upd_ne (ne_of_none e hx)]; exact e
        have nF : ∀ b ∈ [x], F1 b = none := fun b hb => by
          simp at hb
          subst hb
          exact sub_none st.sx.fh hx
        have fsub : Sub F1 (upd H1 x (.dK [])) := fun b u e => H2e b u (st.sx.fh b u e)
        have ow : Own (zd X cls) F1 (upd H1 x (.dK [])) x [x] (.dic [] []) :=
          ⟨⟨rfl, [], [], upd_same, rfl, List.nodup_nil, rfl, .nil⟩, nF, by simp⟩
        refine ⟨F1, _, [(x, [x])], .ok (.val d), [o], fsub, fun p hp => (st.sx.tb p hp).mono Sub.rfl (fun _ => (st.sx.tb p hp).1) fun ps e => H2e _ _ e, argR_app ow p1, q, fun v F' H' fp fr wr nw => ?_⟩
        obtain ⟨rv, rfl⟩ := wr
        have hold : ∀ b u, H1 b = some u → NT u → H' b = some u := fun b u e n1 => fr.hh b u (fun q hq => by
          simp at hq
          subst hq
          intro hb
          simp at hb
          subst hb
          rw [hx] at e; cases e) (H2e b u e) n1
        have fnn : ∀ b, F' b ≠ none → F1 b = none → H1 b = none := fun b h1 h2 => by
          have := fr.fn b h1 h2
          cases z : H1 b with
          | none => rfl
          | some u => rw [H2e b u z] at this; cases this
        exact en v F' H' O1 (Stp.gr st.sx ⟨fr.ff, hold, fr.fh, fnn, fun _ => fr.tb, fun P ps e => fr.ht P ps (H2e P _ e)⟩) ⟨[], ⟨rv, rfl⟩, fun b hb => nomatch hb⟩
    have pa := pa_esN (dp := dp) hs g
    have hst : (es ++ [(PySem.Expr.Dict [] [] dp : Ex)]).any isStar = false := by rw [List.any_append, hs]; rfl
    refine wpAny_Call_Name_kw (ld_glob I gl hm ?_ o2)
    revert pa hl hst
    generalize hE : es ++ [(PySem.Expr.Dict [] [] dp : Ex)] = es1
    intro hl pa hst
    cases es1 with
    | nil => simp at hE
    | cons e er =>
      have hs' := hst
      rw [List.any_cons, Bool.or_eq_false_iff] at hs'
      have q1 : tM (zd X cls) Wx (pL (zd X cls)) (denEs C es') σ H fun vs H1 => ∀ q, H1 q = none → (fun ws H2 => ws.length = (e :: er).length ∧ spF (zd X cls) (C.call f) ws H2 Q (fun cl dx H' => Wx cl dx σ H')) (vs ++ [.ref q]) (upd H1 q (.dK [])) := by
        obtain ⟨B, F, ρ, O, sx, r, ρ', hm3, en⟩ := q0
        refine ⟨B, F, ρ, O, sx, r, ρ', hm3, ?_⟩
        cases r with
        | ex x => exact en
        | ok ds => exact fun vs F' H' O' st p q hq => ⟨by rw [← hE, List.length_append, List.length_append, (en vs F' H' O' st p q hq).1]; rfl, (en vs F' H' O' st p q hq).2⟩
      refine PySem.W.callWith_K (h₀ := X.base) I.ok.mod.kin hk (thn (pa.run p pins s σ H (fun ws H2 => ws.length = (e :: er).length ∧ spF (zd X cls) (C.call f) ws H2 Q (fun cl dx H' => Wx cl dx σ H')) I q1) fun us s2 ⟨vs, H2, I2, r, hv, q3⟩ => ⟨I2.kIn, ?_⟩) (star_cons hs'.1) (back_any hs'.2)
      have e1 : us.length = ps.length := by rw [← r.length, hv, hl]
      exact runG tk (ks := []) (us := us) (ws := []) F hr I2 (by rw [List.append_nil]; exact hb _ _ I2.kIn e1) (by rw [List.append_nil]; exact e1) (by rw [List.append_nil]; exact r) q3
  exact ⟨pe, pt_of pe (by intro _; rfl), fun i h => by cases h⟩
end
theorem newLast_ok : ∀ {es es0 : List Ex}, newLast es = some es0 → ∃ dp, es = es0 ++ [(PySem.Expr.Dict [] [] dp : Ex)]
  | [], es0, h => by cases h
  | e :: es, es0, h => by
    unfold newLast at h
    split at h
    · cases h
      exact ⟨_, rfl⟩
    · obtain ⟨r, hr, rfl⟩ := Option.map_eq_some_iff.mp h
      obtain ⟨dp, rfl⟩ := newLast_ok hr
      exact ⟨dp, rfl⟩
end Py
set_option Elab.async false
set_option linter.all false
set_option maxRecDepth 100000
set_option maxHeartbeats 4000000
/-! PyU: what a loop walks. -/
namespace Py
open PySem PySem.Spec L2 PySem.SeqAt PyProof.Rows
section
theorem enum_new1 {v : Value} {o : Obj} {Ho : Heap → Prop} (B : Begins v o Ho) : Meets (Builtin.«enumerate.__new__» ⟨[.type "enumerate", v], []⟩) (fun _ R s => Ho s.heap ∧
      R (.ok (.ret (.ref (s.heap.push o).objs.size))) { s with heap := (s.heap.push o).push { cls := .type "enumerate", data := .fields #[.none, .bool false, .ref s.heap.objs.size, rawInt 0, .none, .none] } }) :=
  .of_wp fun prog w A R s h => by
    obtain ⟨hp, g, d, tk, os⟩ := s; obtain ⟨h1, h⟩ := h
    have hsub := sub_enumerate
    have q1 : ∀ {A' : Around} {E : Value → Shared → Prop} {Q : Value → Shared → Prop}, Q (.ref hp.objs.size) ⟨hp.push o, g, d, tk, os⟩ → wpAny (model prog w) A' (pyIter v) Q E ⟨hp, g, d, tk, os⟩ := fun q => B.iter prog w _ _ ⟨hp, g, d, tk, os⟩ _ h1 q
    wp_walk using q1
    refine wpAny_stack_any fun st => wpAny_pure ?_
    split
    · rename_i c _ _ _ _ _
      cases (c == Value.type "enumerate")
      · wp_walk using q1
        exact ⟨_, rfl, h⟩
      · wp_walk using q1
        exact ⟨_, rfl, h⟩
    · wp_walk using q1
      exact ⟨_, rfl, h⟩
variable {prog : Program} {w : World} {A : Around} {E : Value → Shared → Prop} {s : Shared}
theorem call_enum1 {v : Value} {o : Obj} {Ho : Heap → Prop} {Q : Value → Shared → Prop} (B : Begins v o Ho) (h1 : Ho s.heap)
    (h : ∀ h', IsEnum h' (s.heap.objs.size + 1) s.heap.objs.size 0 .none → h'.get? s.heap.objs.size = some o → h'.objs.size = s.heap.objs.size + 2 → (∀ b o, s.heap.get? b = some o → h'.get? b = some o) → Q (.ref (s.heap.objs.size + 1)) { s with heap := h' }) :
    wpAny (model prog w) A (call (.type "enumerate") [v]) Q E s := by
  refine callType_new F.called_enumerate (by decide) (F.typeCall_enumerate_1 _) (F.newCall_enumerate_1 _) (fun obj => F.args_object_init_2 obj _) F.entry_enumerate_new (enum_new1 B) ⟨h1, ?_⟩
  have hz : (s.heap.push o).objs.size = s.heap.objs.size + 1 := Heap.size_push ..
  show _ ∧ _
  rw [hz]
  have he : IsEnum ((s.heap.push o).push { cls := .type "enumerate", data := .fields #[.none, .bool false, .ref s.heap.objs.size, rawInt 0, .none, .none] }) (s.heap.objs.size + 1) s.heap.objs.size 0 .none := by
    have e := Heap.get?_push_size (s.heap.push o) (o := { cls := .type "enumerate", data := .fields #[.none, .bool false, .ref s.heap.objs.size, rawInt 0, .none, .none] }) rfl
    rw [hz] at e
    exact e
  exact ⟨⟨_, he, rfl⟩, h _ he (Heap.get?_push_of_some _ (Heap.get?_push_size _ B.free)) (by rw [Heap.size_push, hz]) fun b o x => Heap.get?_push_of_some _ (Heap.get?_push_of_some _ x)⟩
end
/-- the tuple at a, each item in a new pair -/
def IteT (K : PySem.W.Frag) (a : Addr) (n : Nat) : L2.It :=
  ⟨fun i H => ∃ (xs : List VV) (x : VV), SqT K H a xs ∧ xs.length = n ∧ xs[i]? = some x, fun i H v H' => ∃ T x, v = .ref T ∧ H T = none ∧ H' = upd H T (.tup [.int (i : Nat), x]) ∧ ∀ xs, SqT K H a xs → xs[i]? = some x, fun i H => ∃ xs : List VV, SqT K H a xs ∧ xs.length = n ∧ n ≤ i⟩
theorem turn_enumT {P : Program} {w : World} {K : PySem.W.Frag} {elts : List Ex} {kk : Nat} {tpos : Pos} (a e it : Addr) (n : Nat) (hat : a ≠ it) (hea : e ≠ a) :
    Turn P w K (.Tuple elts kk tpos) (IteT K a n) [e, it] e (fun i h => (∃ old, IsEnum h e it ((i : Nat) : Int) old) ∧ h.IsTupleIter it a i ∧ e ≠ it ∧ i ≤ n) where
  mem := by simp
  obj := fun i h st b hb => by
    obtain ⟨⟨old, he⟩, ⟨o, ho, hc, hd⟩, _⟩ := st
    have z : b = e ∨ b = it := by simpa using hb
    rcases z with rfl | rfl
    · exact ⟨_, he, fun v q => nomatch q⟩
    · exact ⟨o, ho, fun v q => by rw [hd] at q; cases q⟩
  keep := fun i h h' st k => by
    obtain ⟨⟨old, he⟩, hi, hne, hin⟩ := st
    exact ⟨⟨old, k e (by simp) _ he⟩, hi.at fun o q => k it (by simp) o q, hne, hin⟩
  item := by
    intro X hP hw hK hc i pins s σ H E I hf st hg
    subst hP hw hK
    obtain ⟨⟨old, he⟩, hit, hne, hin⟩ := st
    obtain ⟨xs, x, hq, hxn, hx⟩ := hg
    obtain ⟨its, rv, p, hz⟩ := I.tuple hq
    obtain ⟨u, hu, ru⟩ := rv.get hx
    have hel : e < s.heap.objs.size := Heap.lt_size he
    have hil : it < s.heap.objs.size := by
      obtain ⟨_, q, _⟩ := hit
      exact Heap.lt_size q
    have hlt : i < its.toArray.size := by
      rcases Nat.lt_or_ge i its.length with z | z
      · simpa using z
      · rw [List.getElem?_eq_none z] at hu; cases hu
    refine wpAny_pyNext_enum_itemD (Draws.tuple (A := X.A.in1) (I.ok.hd hc) it a hat its.toArray) he ⟨hit, p⟩ hlt hne (by simp [hne, hea]) fun x' h' tk hx' ho hst hT hsz hk => ?_
    have ex : x' = u := by
      have e1 : its[i]? = some x' := by simpa using hx'
      rw [hu] at e1
      exact (Option.some.inj e1).symm
    subst ex
    refine ⟨_, rfl, wpAny_letOwnedTupleGo_enum (s := { s with heap := h', toks := tk + 1 }) ho fun h'' he' sb => ?_⟩
    have hT2 : h''.get? s.heap.objs.size = some { cls := .type "tuple", data := .seq #[.int i tk, x'] } := (sb.2 _ (Nat.ne_of_gt hel)).trans hT
    have new : ObjOk X.prog X.w (upd H s.heap.objs.size (.tup [.int (i : Nat), x])) h'' s.heap.objs.size (.tup [.int (i : Nat), x]) :=
      ⟨by show 2 ≤ sizeLine; decide, [.int i tk, x'], .cons ⟨_, rfl⟩ (.cons ru .nil), ⟨_, hT2, rfl, _, rfl⟩⟩
    have I1 : Inv X pins σ (upd H s.heap.objs.size (.tup [.int (i : Nat), x])) { s with heap := h'', toks := tk + 1 } :=
      I.turnedNew (ch := [e, it]) (fun b ob hb q => (sb.2 b (fun z => hb (by simp [z]))).trans (hk b ob (fun z => hb (by simp [z])) (fun z => hb (by simp [z])) q)) hf (Nat.le_refl _) new
    refine ⟨.ref s.heap.objs.size, _, I1, rfl, ⟨_, x, rfl, I.hok.fresh (Nat.le_refl _), rfl, fun ys hy => by rw [I.tuple_inj hy hq]; exact hx⟩, ⟨⟨x', ?_⟩, hst.1.at fun o q => (sb.2 it (Ne.symm hne)).trans q, hne, by rw [← hxn, rv.length]; exact Nat.succ_le_of_lt (by simpa using hlt)⟩, fun b hb => ?_⟩
    · have e1 : ((i + 1 : Nat) : Int) = (i : Int) + 1 := by omega
      rw [e1]
      exact he'
    · have hb' : b ≠ s.heap.objs.size := by
        have z : b = e ∨ b = it := by simpa using hb
        rcases z with rfl | rfl
        · exact Nat.ne_of_lt hel
        · exact Nat.ne_of_lt hil
      rw [upd_ne hb']
      exact (hf b hb).1
  done := by
    intro X hP hw hK hc i pins s σ H E I hf st hg
    subst hP hw hK
    obtain ⟨⟨old, he⟩, hit, hne, hin⟩ := st
    obtain ⟨xs, hq, hxn, hx⟩ := hg
    obtain ⟨its, rv, p, hz⟩ := I.tuple hq
    obtain ⟨f0, f1, f2, f3, f4, f5⟩ := hf it (by simp)
    have hl := rv.length
    have ei : i = its.toArray.size := by simp; omega
    subst ei
    exact wpAny_pyNext_enum_endD (Draws.tuple (A := X.A.in1) (I.ok.hd hc) it a hat its.toArray) he ⟨hit, p⟩ fun h' eb => ⟨rfl, I.turned (t' := s.toks) (fun b o hb q => eb b o hb q) f0 f1 f3 f4 f5⟩
  self := fun A i s Q E st h => by
    obtain ⟨⟨_, he⟩, _⟩ := st
    exact wpAny_pyIter_enum he h
/-! ### the walks -/
/-- J walks ds -/
structure Goes (Z : Wd) (F : Hp) (J : L2.It) (ds : List D) : Prop where
  go : ∀ i H, Sub F H → i < ds.length → J.go i H
  stop : ∀ i H, Sub F H → ds.length ≤ i → J.stop i H
  yld : ∀ i d F1 H x H', Sub F F1 → Sub F1 H → ds[i]? = some d → J.yld i H x H' → ∃ F2, Gr Z.cls.T F1 H F2 H' ∧ Rp Z F2 x d
section
variable {Z : Wd} {F : Hp} {a : Addr} {vs : List VV} {ds : List D}
theorem scr_sq {ns : List Int} {H : Hp} (h : ScrR Z.K F a ns) (s : Sub F H) : SqL Z.K H a (ns.map L2.V.int) := by
  rcases h with ⟨o, h⟩ | h
  · exact .inl (.inr ⟨o, s _ _ h⟩)
  · exact h H
theorem goes_lst (h : F a = some (.lst vs)) (l : RpL Z F vs ds) : Goes Z F (Itl Z.K a) ds where
  go := fun i H s hi => by
    obtain ⟨v, hv, _⟩ := l.get (List.getElem?_eq_getElem hi)
    exact ⟨vs, v, SqL.of (s _ _ h), hv⟩
  stop := fun i H s hi => ⟨vs, SqL.of (s _ _ h), by rw [l.length]; exact hi⟩
  yld := fun i d F1 H x H' s1 s2 hd y => by
    obtain ⟨rfl, hx⟩ := y
    obtain ⟨v, hv, r⟩ := l.get hd
    have e := hx vs (SqL.of (s2 _ _ (s1 _ _ h)))
    rw [hv] at e
    cases e
    exact ⟨F1, Gr.rfl s2, r.mono s1⟩
theorem goes_scr {ns : List Int} (h : ScrR Z.K F a ns) : Goes Z F (Itl Z.K a) (ns.map D.int) where
  go := fun i H s hi => ⟨ns.map L2.V.int, .int (ns[i]'(by simpa using hi)), scr_sq h s, by simp at hi; simp [hi]⟩
  stop := fun i H s hi => ⟨ns.map L2.V.int, scr_sq h s, by simpa using hi⟩
  yld := fun i d F1 H x H' s1 s2 hd y => by
    obtain ⟨rfl, hx⟩ := y
    have e := hx _ (scr_sq h (s1.tr s2))
    rw [List.getElem?_map] at hd e
    cases q : ns[i]? with
    | none => rw [q] at hd; cases hd
    | some n =>
      rw [q] at hd e
      cases hd
      cases e
      exact ⟨F1, Gr.rfl s2, .int _⟩
theorem goes_tup (h : SqT Z.K F a vs) (l : RpL Z F vs ds) : Goes Z F (Itt Z.K a) ds where
  go := fun i H s hi => by
    obtain ⟨v, hv, _⟩ := l.get (List.getElem?_eq_getElem hi)
    exact ⟨vs, v, sqT_mono s h, hv⟩
  stop := fun i H s hi => ⟨vs, sqT_mono s h, by rw [l.length]; exact hi⟩
  yld := fun i d F1 H x H' s1 s2 hd y => by
    obtain ⟨rfl, hx⟩ := y
    obtain ⟨v, hv, r⟩ := l.get hd
    have e := hx vs (sqT_mono s2 (sqT_mono s1 h))
    rw [hv] at e
    cases e
    exact ⟨F1, Gr.rfl s2, r.mono s1⟩
theorem goes_str (z : Str) : Goes Z F (Its z) (z.cps.toList.map fun c => D.str ⟨#[c]⟩) where
  go := fun i H s hi => by
    have h : i < z.cps.size := by simpa using hi
    exact h
  stop := fun i H s hi => by
    have h : z.cps.size ≤ i := by simpa using hi
    exact h
  yld := fun i d F1 H x H' s1 s2 hd y => by
    obtain ⟨rfl, c, hc, rfl⟩ := y
    rw [List.getElem?_map] at hd
    have e : z.cps.toList[i]? = some c := by simpa using hc
    rw [e] at hd
    cases hd
    exact ⟨F1, Gr.rfl s2, .str _⟩
theorem goes_rng (lo hi : Int) : Goes Z F (Itr lo (hi - lo).toNat) (range lo hi) where
  go := fun i H s h => by
    have e : (range lo hi).length = (hi - lo).toNat := by simp [range]
    rw [e] at h
    exact h
  stop := fun i H s h => by
    have e : (range lo hi).length = (hi - lo).toNat := by simp [range]
    rw [e] at h
    exact h
  yld := fun i d F1 H x H' s1 s2 hd y => by
    obtain ⟨rfl, rfl⟩ := y
    unfold range at hd
    rw [List.getElem?_map] at hd
    cases q : (List.range (hi - lo).toNat)[i]? with
    | none => rw [q] at hd; cases hd
    | some k =>
      rw [q] at hd
      have e : k = i := by
        obtain ⟨hk, e⟩ := List.getElem?_eq_some_iff.mp q
        simpa using e.symm
      subst e
      cases hd
      exact ⟨F1, Gr.rfl s2, .int _⟩
theorem enum_get {i : Nat} {d : D} (h : (enumD ds)[i]? = some d) : ∃ e, ds[i]? = some e ∧ d = .tup [.int (i : Nat), e] := by
  unfold enumD at h
  rw [List.getElem?_map, List.getElem?_zipIdx] at h
  cases q : ds[i]? with
  | none => rw [q] at h; cases h
  | some e =>
    rw [q] at h
    cases h
    exact ⟨e, rfl, by simp⟩
theorem pair_new {F1 H : Hp} {T : Addr} {i : Nat} {v : VV} {e : D} (s : Sub F1 H) (n : H T = none) (r : Rp Z F1 v e) : ∃ F2, Gr Z.cls.T F1 H F2 (upd H T (.tup [.int (i : Nat), v])) ∧ Rp Z F2 (.ref T) (.tup [.int (i : Nat), e]) :=
  ⟨_, Gr.new s n, .tup (SqT.of upd_same) (.cons (.int _) (.cons (r.mono (Gr.new (T := []) s n).ff) .nil))⟩
theorem enum_len : (enumD ds).length = ds.length := by unfold enumD; simp
theorem goes_enum (h : F a = some (.lst vs)) (l : RpL Z F vs ds) : Goes Z F (Ite Z.K a) (enumD ds) where
  go := fun i H s hi => by
    rw [enum_len] at hi
    obtain ⟨v, hv, _⟩ := l.get (List.getElem?_eq_getElem hi)
    exact ⟨vs, v, SqL.of (s _ _ h), hv⟩
  stop := fun i H s hi => ⟨vs, SqL.of (s _ _ h), by rw [enum_len] at hi; rw [l.length]; exact hi⟩
  yld := fun i d F1 H x H' s1 s2 hd y => by
    obtain ⟨T, x', rfl, hT, rfl, hx⟩ := y
    obtain ⟨e, he, rfl⟩ := enum_get hd
    obtain ⟨v, hv, r⟩ := l.get he
    have e1 := hx vs (SqL.of (s2 _ _ (s1 _ _ h)))
    rw [hv] at e1
    cases e1
    exact pair_new s2 hT (r.mono s1)
theorem goes_enumT (h : SqT Z.K F a vs) (l : RpL Z F vs ds) : Goes Z F (IteT Z.K a vs.length) (enumD ds) where
  go := fun i H s hi => by
    rw [enum_len] at hi
    obtain ⟨v, hv, _⟩ := l.get (List.getElem?_eq_getElem hi)
    exact ⟨vs, v, sqT_mono s h, rfl, hv⟩
  stop := fun i H s hi => ⟨vs, sqT_mono s h, rfl, by rw [enum_len] at hi; rw [l.length]; exact hi⟩
  yld := fun i d F1 H x H' s1 s2 hd y => by
    obtain ⟨T, x', rfl, hT, rfl, hx⟩ := y
    obtain ⟨e, he, rfl⟩ := enum_get hd
    obtain ⟨v, hv, r⟩ := l.get he
    have e1 := hx vs (sqT_mono s2 (sqT_mono s1 h))
    rw [hv] at e1
    cases e1
    exact pair_new s2 hT (r.mono s1)
end
def pJ (Z : Wd) : Rl (List D) L2.It := fun F' _ _ _ J ds => Goes Z F' J ds
theorem early_J (Z : Wd) : Early (pJ Z) := fun _ _ _ _ _ _ _ _ h => h
abbrev tI (X : Cx) (cls : Nm) (Wx : WX) (C : Cfg) (i : It) : TI := fun σ H R => tM (zd X cls) Wx (pJ (zd X cls)) (denI C i) σ H R
section
variable {X : Cx} {cls : Nm} {Wx : WX} {C : Cfg} {tg : Ex}
/-- any sequence -/
def iAny (K : PySem.W.Frag) (te : TE) : TI := fun σ H R => te σ H fun x H1 => (∃ a, x = .ref a ∧ (∃ xs, SqL K H1 a xs) ∧ R (Itl K a) H1) ∨ (∃ a, x = .ref a ∧ (∃ xs, SqT K H1 a xs) ∧ R (Itt K a) H1) ∨ ∃ z, x = .str z ∧ R (Its z) H1
theorem pi_any {e : Ex} {te : TE} (he : PE X e te) : PI X tg e (iAny X.K te) := by
  refine ⟨fun pins s σ H R I h => thn (he.run pins s σ H _ I h) fun v s1 ⟨x, H1, I1, r1, q1⟩ => ?_⟩
  rcases q1 with ⟨a, rfl, ⟨xs, hq⟩, q⟩ | ⟨a, rfl, ⟨xs, hq⟩, q⟩ | ⟨z, rfl, q⟩
  · cases r1
    obtain ⟨its, rv, p, _⟩ := I1.list hq
    exact wpAny_pyIter_list p.isList (pi_one (tk := s1.toks) I1 _ (turn_list a _) ⟨_, Heap.get?_push_size _ rfl, rfl, rfl⟩ q)
  · cases r1
    obtain ⟨its, rv, p, _⟩ := I1.tuple hq
    exact wpAny_pyIter_tuple p (pi_one (tk := s1.toks) I1 _ (turn_tuple a _) ⟨_, Heap.get?_push_size _ rfl, rfl, rfl⟩ q)
  · obtain ⟨t, rfl⟩ := r1
    cases ha : z.cps.all (· < 128)
    · exact wpAny_pyIter_wide ha (pi_one (tk := s1.toks) I1 _ (turn_str _ z t "str_iterator" (.inr rfl)) ⟨_, Heap.get?_push_size _ rfl, rfl, rfl⟩ q)
    · exact wpAny_pyIter_ascii ha (pi_one (tk := s1.toks) I1 _ (turn_str _ z t "str_ascii_iterator" (.inl rfl)) ⟨_, Heap.get?_push_size _ rfl, rfl, rfl⟩ q)
theorem pi_of {e : Ex} {e' : E} (g : Good X cls Wx C e e') : PI X tg e (tI X cls Wx C (.of e')) := by
  refine ⟨fun pins s σ H R I h => (pi_any g.fz).run pins s σ H R I ?_⟩
  obtain ⟨B, F, ρ, O, sx, h1⟩ := (show tM (zd X cls) Wx (pJ (zd X cls)) (M.bnd (fzM (den C e')) fun d => M.lift (itemsD d)) σ H R from h)
  refine ⟨B, F, ρ, O, sx, h1.seq (early_J _) fun x v F1 H1 ρ1 O1 _ st p1 h2 => ?_⟩
  obtain ⟨r, ρ', hm, en⟩ := h2
  unfold M.lift at hm
  cases p1 with
  | tup q l =>
    cases hm
    exact .inr (.inl ⟨_, rfl, ⟨_, sqT_mono st.sx.fh q⟩, en _ F1 H1 O1 (Stp.rfl st.sx) (goes_tup q l)⟩)
  | lst q l =>
    cases hm
    exact .inl ⟨_, rfl, ⟨_, SqL.of (st.sx.fh _ _ q)⟩, en _ F1 H1 O1 (Stp.rfl st.sx) (goes_lst q l)⟩
  | str z =>
    cases hm
    exact .inr (.inr ⟨z, rfl, en _ F1 H1 O1 (Stp.rfl st.sx) (goes_str z)⟩)
  | scr q =>
    cases hm
    exact .inl ⟨_, rfl, ⟨_, scr_sq q st.sx.fh⟩, en _ F1 H1 O1 (Stp.rfl st.sx) (goes_scr q)⟩
  | _ => cases hm
theorem pi_rng {es : List Ex} {es' : List E} {p pos : Pos} (gl : Gl X "range") (hm : X.mg "range" = none) (hs : es.any isStar = false) (h12 : es.length = 1 ∨ es.length = 2) (g : Goods X cls Wx C es es') : PI X tg (.Call (.Name "range" p) es [] pos) (tI X cls Wx C (.rng es')) := by
  have hl := goods_len g
  have key : ∀ {σ H R}, tI X cls Wx C (.rng es') σ H R → tM (zd X cls) Wx (pL (zd X cls)) (denEs C es') σ H fun vs H1 => (∃ j : Int, vs = [.int j] ∧ -(2 ^ 62) ≤ j ∧ j < 2 ^ 62 ∧ R (Itr 0 j.toNat) H1) ∨ ∃ i j : Int, vs = [.int i, .int j] ∧ (-(2 ^ 62) ≤ i ∧ i < 2 ^ 62 ∧ -(2 ^ 62) ≤ j ∧ j < 2 ^ 62) ∧ R (Itr i (j - i).toNat) H1 := by
    intro σ H R h
    obtain ⟨B, F, ρ, O, sx, h1⟩ := (show tM (zd X cls) Wx (pJ (zd X cls)) (M.bnd (denEs C es') fun ds => match ds with
      | [.int j] => if okR j then M.ret (range 0 j) else M.stuck
      | [.int i, .int j] => if okR i && okR j then M.ret (range i j) else M.stuck
      | _ => M.stuck) σ H R from h)
    refine ⟨B, F, ρ, O, sx, h1.seq (early_J _) fun ds vs F1 H1 ρ1 O1 _ st p1 h2 => ?_⟩
    rcases ds with _ | ⟨d, dr⟩
    · exact h2.stuck.elim
    · rcases dr with _ | ⟨d2, dr⟩
      · cases d with
        | int j =>
          cases p1 with
          | cons a b =>
            cases a; cases b
            obtain ⟨ok, h3⟩ := h2.iff_
            have ok' := of_decide_eq_true ok
            have q := h3.ret st.sx (b := Itr 0 (j - 0).toNat) (goes_rng 0 j)
            rw [Int.sub_zero] at q
            exact .inl ⟨j, rfl, by omega, by omega, q⟩
        | _ => exact h2.stuck.elim
      · rcases dr with _ | ⟨d3, dr⟩
        · cases d with
          | int i =>
            cases d2 with
            | int j =>
              cases p1 with
              | cons a b =>
                cases a
                cases b with
                | cons a b =>
                  cases a; cases b
                  obtain ⟨ok, h3⟩ := h2.iff_
                  rw [Bool.and_eq_true] at ok
                  have ok1 := of_decide_eq_true ok.1
                  have ok2 := of_decide_eq_true ok.2
                  exact .inr ⟨i, j, rfl, ⟨by omega, by omega, by omega, by omega⟩, h3.ret st.sx (b := Itr i (j - i).toNat) (goes_rng i j)⟩
            | _ => exact h2.stuck.elim
          | _ => cases d2 <;> exact h2.stuck.elim
        · cases d <;> first | exact h2.stuck.elim | (cases d2 <;> exact h2.stuck.elim)
  have len : ∀ {σ H} {K : List VV → Hp → Prop}, tM (zd X cls) Wx (pL (zd X cls)) (denEs C es') σ H K → tM (zd X cls) Wx (pL (zd X cls)) (denEs C es') σ H fun vs H1 => vs.length = es.length ∧ K vs H1 := by
    intro σ H K h
    obtain ⟨B, F, ρ, O, sx, h1⟩ := h
    exact ⟨B, F, ρ, O, sx, h1.imp fun b F' H' ρ' O' a hm st pp q => ⟨by rw [RpL.length pp, denEs_len hm, hl], q⟩⟩
  rcases es with _ | ⟨a, es⟩
  · rcases h12 with h | h <;> cases h
  · rcases es with _ | ⟨b, es⟩
    · refine ⟨fun pins s σ H R I h => (pi_range1 gl hm ((pa_es hs g).mono fun σ H Q h => h) (star_all hs)).run pins s σ H R I ?_⟩
      refine tM_imp (len (key h)) fun vs H1 ⟨hv, q⟩ => ?_
      rcases q with q | ⟨i, j, rfl, _⟩
      · exact q
      · cases hv
    · rcases es with _ | ⟨c, es⟩
      · have hs2 : [b].any isStar = false := by
          rw [List.any_cons, Bool.or_eq_false_iff] at hs
          exact hs.2
        refine ⟨fun pins s σ H R I h => (pi_range2 gl hm ((pa_es hs g).mono fun σ H Q h => h) (star_all hs) (star_all hs2)).run pins s σ H R I ?_⟩
        refine tM_imp (len (key h)) fun vs H1 ⟨hv, q⟩ => ?_
        rcases q with ⟨j, rfl, _⟩ | q
        · cases hv
        · exact q
      · rcases h12 with h | h <;> (simp at h)
theorem pi_enm {e : Ex} {e' : E} {elts : List Ex} {kk : Nat} {p pos tpos : Pos} (gl : Gl X "enumerate") (hm : X.mg "enumerate" = none) (hs : isStar e = false) (g : Good X cls Wx C e e') : PI X (.Tuple elts kk tpos) (.Call (.Name "enumerate" p) [e] [] pos) (tI X cls Wx C (.enm e')) := by
  refine ⟨fun pins s σ H R I h => ?_⟩
  have q0 : tF X cls Wx (fzM (den C e')) σ H fun x H1 => (∃ a xs, x = .ref a ∧ SqL X.K H1 a xs ∧ R (Ite X.K a) H1) ∨ ∃ a xs, x = .ref a ∧ SqT X.K H1 a xs ∧ R (IteT X.K a xs.length) H1 := by
    obtain ⟨B, F, ρ, O, sx, h1⟩ := (show tM (zd X cls) Wx (pJ (zd X cls)) (M.bnd (fzM (den C e')) fun d => M.lift ((seqD d).map enumD)) σ H R from h)
    refine ⟨B, F, ρ, O, sx, h1.seq (early_J _) fun x v F1 H1 ρ1 O1 _ st p1 h2 => ?_⟩
    obtain ⟨r, ρ', hm, en⟩ := h2
    unfold M.lift at hm
    cases p1 with
    | tup q l =>
      cases hm
      exact .inr ⟨_, _, rfl, sqT_mono st.sx.fh q, en _ F1 H1 O1 (Stp.rfl st.sx) (goes_enumT q l)⟩
    | lst q l =>
      cases hm
      exact .inl ⟨_, _, rfl, SqL.of (st.sx.fh _ _ q), en _ F1 H1 O1 (Stp.rfl st.sx) (goes_enum q l)⟩
    | _ => cases hm
  have hs1 : [e].any isStar = false := by rw [List.any_cons, hs]; rfl
  refine Call_ (ld_blt I gl hm boot_enumerate (PyProof.Rows.callWith_type1 (args_cons (thn (g.fz.run pins s σ H _ I q0) fun u s1 ⟨v, H1, I1, r1, q1⟩ => args_nil ?_) (star_cons hs)) (star_cons hs) rfl))
  have fresh : ∀ {b : Addr} {J : L2.It} {tn : Nat → Heap → Prop} {h' : Heap}, (∀ b o, s1.heap.get? b = some o → h'.get? b = some o) → Turn X.prog X.w X.K (.Tuple elts kk tpos) J [s1.heap.objs.size + 1, s1.heap.objs.size] (s1.heap.objs.size + 1) tn → tn 0 h' → R J H1 → PIE X pins σ (.Tuple elts kk tpos) R (.ref (s1.heap.objs.size + 1)) { s1 with heap := h' } := by
    intro b J tn h' hk T st q
    refine ⟨_, _, _, J, H1, rfl, I1.kept (t' := s1.toks) hk, T, st, fun b hb => ?_, q⟩
    have hle : s1.heap.objs.size ≤ b := by
      have z : b = s1.heap.objs.size + 1 ∨ b = s1.heap.objs.size := by simpa using hb
      rcases z with z | z
      · rw [z]; exact Nat.le_succ _
      · rw [z]; exact Nat.le_refl _
    exact I1.fpOk hle (I1.hok.fresh hle)
  rcases q1 with ⟨a, xs, rfl, hq, q⟩ | ⟨a, xs, rfl, hq, q⟩
  · cases r1
    obtain ⟨its, rv, p', hz⟩ := I1.list hq
    refine call_enumerate_list p'.isList fun h' he hit hsz hk => wpAny_pyIter_enum he ?_
    exact fresh (b := a) hk (turn_enum a _ _) ⟨⟨.none, he⟩, hit, Nat.succ_ne_self _⟩ q
  · cases r1
    obtain ⟨its, rv, p', hz⟩ := I1.tuple hq
    refine call_enum1 (begins_tuple a its.toArray) p' fun h' he hit hsz hk => wpAny_pyIter_enum he ?_
    have hlt : a < s1.heap.objs.size := by
      obtain ⟨o, e, _⟩ := p'
      exact Heap.lt_size e
    exact fresh (b := a) hk (turn_enumT a _ _ xs.length (Nat.ne_of_lt hlt) (Nat.ne_of_gt (Nat.lt_succ_of_lt hlt))) ⟨⟨.none, he⟩, ⟨_, hit, rfl, rfl⟩, Nat.succ_ne_self _, Nat.zero_le _⟩ q
end
end Py
set_option Elab.async false
set_option linter.all false
set_option maxRecDepth 100000
set_option maxHeartbeats 4000000
/-! PyV: stores into slots, targets. -/
namespace Py
open PySem PySem.Spec L2 PySem.SeqAt PyProof.Rows
/-- a slot that may be stored to -/
def mayStore : Slot → Bool
  | .own _ true => false
  | _ => true
section
variable {Z : Wd} {B : Base} {F F' H H' : Hp} {σ : Sg} {ρ : Env} {J : IoJ} {O : List Addr} {i : Nat} {d : D} {v : VV}
theorem SlR.any_un {H0 : Hp} {x : Option VV} (h : SlR Z H0 F H σ ρ J O) : ∀ {i : Nat}, ρ[i]? = some .un → SlR Z H0 F H (σ.set i x) ρ J O := by
  induction h with
  | nil => intro i e; simp at e
  | un q ih => intro i e; cases i with
    | zero => exact .un q
    | succ i => exact .un (ih (by simpa using e))
  | val r q ih => intro i e; cases i with
    | zero => simp at e
    | succ i => exact .val r (ih (by simpa using e))
  | own w f n q ih => intro i e; cases i with
    | zero => simp at e
    | succ i => exact .own w f n (ih (by simpa using e))
  | io w n q ih => intro i e; cases i with
    | zero => simp at e
    | succ i => exact .io w n (ih (by simpa using e))
theorem set_get {α : Type} {l : List α} {i : Nat} {x y : α} (h : l[i]? = some y) : (l.set i x)[i]? = some x := by
  have hl : i < l.length := by
    rcases Nat.lt_or_ge i l.length with z | z
    · exact z
    · rw [List.getElem?_eq_none z] at h; cases h
  rw [List.getElem?_set_self hl]
/-- the slot is emptied -/
theorem Sx.clear (s : Sx Z B F H σ ρ O) {sl : Slot} (h : ρ[i]? = some sl) (k : mayStore sl = true) : ∃ O', (∀ b ∈ O', b ∈ O) ∧ Sx Z B F H σ (ρ.set i .un) O' := by
  cases sl with
  | un =>
    have e : ρ.set i .un = ρ := by
      apply List.ext_getElem?
      intro j
      by_cases hj : i = j
      · subst hj; rw [set_get h, h]
      · rw [List.getElem?_set_ne hj]
    rw [e]
    exact ⟨O, fun _ h => h, s⟩
  | val d => exact ⟨O, fun _ h => h, s.fh, s.f0, s.h0, s.tb, s.ht, s.fn, s.sl.free_at h, s.pr⟩
  | own o m =>
    cases m with
    | true => cases k
    | false =>
      obtain ⟨p, fp, O', e, w, a, b, c, n, sl⟩ := s.sl.drop_at h
      exact ⟨O', c, s.fh, s.f0, s.h0, s.tb, s.ht, s.fn, sl, fun x hx => ⟨(s.pr x hx).1, (s.pr x hx).2.1, fun z => (s.pr x hx).2.2 (c x z)⟩⟩
theorem Sx.set_val (s : Sx Z B F H σ ρ O) {sl : Slot} (h : ρ[i]? = some sl) (k : mayStore sl = true) (r : Rp Z F v d) : ∃ O', (∀ b ∈ O', b ∈ O) ∧ Sx Z B F H (σ.set i (some v)) (ρ.set i (.val d)) O' := by
  obtain ⟨O', c, s'⟩ := s.clear h k
  have h2 := s'.sl.fill_val r (set_get h)
  rw [List.set_set] at h2
  exact ⟨O', c, s'.fh, s'.f0, s'.h0, s'.tb, s'.ht, s'.fn, h2, s'.pr⟩
theorem Sx.set_own {p : Addr} {fp : List Addr} {o : Ob} (s : Sx Z B F H σ ρ O) {sl : Slot} (h : ρ[i]? = some sl) (k : mayStore sl = true) (w : Own Z F H p fp o) (n0 : ∀ b ∈ fp, B.H0 b = none) (no : ∀ b ∈ fp, b ∉ O) (nx : ∀ b ∈ fp, b ∉ B.ex) :
    ∃ O', (∀ b ∈ O', b ∈ fp ∨ b ∈ O) ∧ Sx Z B F H (σ.set i (some (.ref p))) (ρ.set i (.own o false)) O' := by
  obtain ⟨O', c, s'⟩ := s.clear h k
  obtain ⟨O2, hm, h2⟩ := s'.sl.fill_own w n0 (fun b hb z => no b hb (c b z)) (set_get h)
  rw [List.set_set] at h2
  refine ⟨O2, fun b hb => ((hm b).mp hb).elim .inl fun z => .inr (c b z), s'.fh, s'.f0, s'.h0, s'.tb, s'.ht, s'.fn, h2, fun b hb => ⟨(s'.pr b hb).1, (s'.pr b hb).2.1, fun z => ?_⟩⟩
  rcases (hm b).mp z with z | z
  · exact nx b z hb
  · exact (s'.pr b hb).2.2 z
end
theorem setV_some {i : Nat} {w : W} {ρ ρ' : Env} {r : R Unit} (h : setV i w ρ = some (r, ρ')) : ∃ sl, ρ[i]? = some sl ∧ mayStore sl = true ∧ r = .ok () ∧ ρ' = ρ.set i w.slot := by
  unfold setV at h
  cases q : ρ[i]? with
  | none => rw [q] at h; cases h
  | some sl =>
    rw [q] at h
    cases sl with
    | un => cases h; exact ⟨_, rfl, rfl, rfl, rfl⟩
    | val d => cases h; exact ⟨_, rfl, rfl, rfl, rfl⟩
    | own o m =>
      cases m with
      | true => cases h
      | false => cases h; exact ⟨_, rfl, rfl, rfl, rfl⟩
/-! ### targets -/
/-- (a, b, ..) = a tuple or a list of that length -/
def gTL (K : PySem.W.Frag) (n : Nat) (t : TGs) : TG := fun v σ H Q => ∃ a xs, v = .ref a ∧ (SqT K H a xs ∨ SqL K H a xs) ∧ xs.length = n ∧ t xs σ H Q
theorem pg_tl {X : Cx} {pos : Pos} {es : List Ex} {k : Nat} {t : TGs} {n : Nat} (hc : X.calm = true) (h : PGs X es t)
    (hn : (assignEach es X.env).length = n := by rfl) (hst : (assignEach es X.env).findIdx? (·.1) = none := by rfl) : PG X (.Tuple es k pos) (gTL X.K n t) := by
  refine ⟨fun pins s σ H v u Q I r hw => ?_⟩
  obtain ⟨a, xs, e1, hq, hl, hw⟩ := hw
  rcases hq with hq | hq
  · exact (pg_tup hc h hn hst).run pins s σ H v u Q I r ⟨a, xs, e1, hq, hl, hw⟩
  · subst e1
    cases r
    obtain ⟨its, rv, ht, hz⟩ := I.list hq
    rw [assign_Tuple]
    refine wpAny_bind (wpAny_standAt ?_)
    unfold unpack
    have hlen : (assignEach es X.env).length = its.toArray.size := by simp [hn, ← hl, rv.length]
    rw [hlen, hst]
    refine wpAny_bind (wpAny_holding (PySem.W.kun_itemsOf (I.ok.hd hc) ht.isList fun h' hx => ?_))
    have I1 : Inv X pins σ H { s with heap := h' } := I.kept (t' := s.toks) fun b o e => hx b o (Nat.ne_of_lt (Heap.lt_size e)) e
    exact h.run pins _ σ H xs _ Q I1 (by simpa using rv) hw
mutual
def gP (K : PySem.W.Frag) : Pat → TG
  | .name i => gName i
  | .tup ps => gTL K ps.length (gPs K ps)
def gPs (K : PySem.W.Frag) : List Pat → TGs
  | [] => gNil
  | p :: ps => gCons (gP K p) (gPs K ps)
end
mutual
theorem bind_run {Z : Wd} {B : Base} {F H : Hp} : ∀ (p : Pat) {d : D} {v : VV} {σ : Sg} {ρ ρ' : Env} {r : R Unit} {O : List Addr} {Q : Sg → Hp → Prop}, Sx Z B F H σ ρ O → Rp Z F v d → bindP p d ρ = some (r, ρ') →
    (r = .ok () → ∀ σ' O', Sx Z B F H σ' ρ' O' → (∀ b ∈ O', b ∈ O) → σ'.length = σ.length → (∀ j, j ∉ patIx p → σ'[j]? = σ[j]?) → Q σ' H) → gP Z.K p v σ H Q
  | .name i, d, v, σ, ρ, ρ', r, O, Q, s, rp, h, k => by
    obtain ⟨sl, hs, hk, rfl, rfl⟩ := setV_some (w := .val d) (show setV i (.val d) ρ = some (r, ρ') from h)
    obtain ⟨O', c, s'⟩ := s.set_val hs hk rp
    refine k rfl _ O' s' c (by simp) fun j hj => ?_
    rw [List.getElem?_set_ne fun z => hj (by simp [patIx, z])]
  | .tup ps, d, v, σ, ρ, ρ', r, O, Q, s, rp, h, k => by
    cases d with
    | tup ds =>
      cases rp with
      | tup q l =>
        have h' : (if ps.length = ds.length then bindPs ps ds else M.stuck) ρ = some (r, ρ') := h
        by_cases hl : ps.length = ds.length
        · rw [if_pos hl] at h'
          exact ⟨_, _, rfl, .inl (sqT_mono s.fh q), by rw [l.length, hl], binds_run ps s l h' k⟩
        · rw [if_neg hl] at h'; cases h'
    | lst ds =>
      cases rp with
      | lst q l =>
        have h' : (if ps.length = ds.length then bindPs ps ds else M.stuck) ρ = some (r, ρ') := h
        by_cases hl : ps.length = ds.length
        · rw [if_pos hl] at h'
          exact ⟨_, _, rfl, .inr (SqL.of (s.fh _ _ q)), by rw [l.length, hl], binds_run ps s l h' k⟩
        · rw [if_neg hl] at h'; cases h'
    | _ => cases h
theorem binds_run {Z : Wd} {B : Base} {F H : Hp} : ∀ (ps : List Pat) {ds : List D} {vs : List VV} {σ : Sg} {ρ ρ' : Env} {r : R Unit} {O : List Addr} {Q : Sg → Hp → Prop}, Sx Z B F H σ ρ O → RpL Z F vs ds → bindPs ps ds ρ = some (r, ρ') →
    (r = .ok () → ∀ σ' O', Sx Z B F H σ' ρ' O' → (∀ b ∈ O', b ∈ O) → σ'.length = σ.length → (∀ j, j ∉ patIxs ps → σ'[j]? = σ[j]?) → Q σ' H) → gPs Z.K ps vs σ H Q
  | [], ds, vs, σ, ρ, ρ', r, O, Q, s, l, h, k => by
    cases l with
    | nil =>
      cases h
      exact ⟨rfl, k rfl σ O s (fun _ h => h) rfl fun _ _ => rfl⟩
    | cons _ _ => cases h
  | p :: ps, ds, vs, σ, ρ, ρ', r, O, Q, s, l, h, k => by
    cases l with
    | nil => cases h
    | @cons v vs d ds rp l =>
      have h' : M.bnd (bindP p d) (fun _ => bindPs ps ds) ρ = some (r, ρ') := h
      unfold M.bnd at h'
      cases q : bindP p d ρ with
      | none => rw [q] at h'; cases h'
      | some pr =>
        obtain ⟨r1, ρ1⟩ := pr
        rw [q] at h'
        refine ⟨v, vs, rfl, bind_run p s rp q fun er σ1 O1 s1 c1 l1 n1 => ?_⟩
        subst er
        exact binds_run ps s1 l h' fun er σ' O' s' c' l' n' => k er σ' O' s' (fun b hb => c1 b (c' b hb)) (l'.trans l1) fun j hj => by
          have hj' : j ∉ patIx p ∧ j ∉ patIxs ps := by simpa [patIxs] using hj
          rw [n' j hj'.2, n1 j hj'.1]
end
theorem trP_ok {X : Cx} {tc : Tc} (hN : X.N = tc.N) (nd : X.N.Nodup) (hsc : ∀ x, tc.own x = true → Loc X.env.scope x ∧ (X.fn x = true ∨ X.env.scope.names.lookup x = some .local)) (hc : X.calm = true) : ∀ (n : Nat) (e : Ex) (p : Pat), trP tc n e = some p → PG X e (gP X.K p)
  | 0, _, _, h => by cases h
  | n + 1, e, p, h => by
    cases e with
    | Name x pos =>
      have h' : (if tc.own x = true then (slotOf? tc.N x).map Pat.name else none) = some p := h
      obtain ⟨ho, h2⟩ := ite_some h'
      obtain ⟨i, hi, rfl⟩ := Option.map_eq_some_iff.mp h2
      have hix : X.N[i]? = some x := by
        rw [hN]
        unfold slotOf? at hi
        obtain ⟨hlt, hx, _⟩ := List.findIdx?_eq_some_iff_getElem.mp hi
        rw [List.getElem?_eq_getElem hlt]
        simpa using hx
      obtain ⟨hl, hf⟩ := hsc x ho
      exact pg_name nd hix hl hf
    | Tuple es k pos =>
      have h' : (es.mapM (trP tc n)).map Pat.tup = some p := h
      obtain ⟨ps, hp, rfl⟩ := Option.map_eq_some_iff.mp h'
      have key : ∀ (es : List Ex) (ps : List Pat), es.mapM (trP tc n) = some ps → PGs X es (gPs X.K ps) ∧ (assignEach es X.env).length = ps.length ∧ (assignEach es X.env).findIdx? (·.1) = none := by
        intro es
        induction es with
        | nil => intro ps h; cases h; exact ⟨pgs_nil, rfl, rfl⟩
        | cons e es ih =>
          intro ps h
          rw [List.mapM_cons] at h
          cases q : trP tc n e with
          | none => rw [q] at h; cases h
          | some p =>
            rw [q] at h
            cases q2 : es.mapM (trP tc n) with
            | none => rw [q2] at h; cases h
            | some pr =>
              rw [q2] at h
              cases h
              obtain ⟨a, b, c⟩ := ih pr q2
              have hst : assignEach (e :: es) X.env = (false, assign e X.env) :: assignEach es X.env := by
                cases n with
                | zero => cases q
                | succ n => cases e <;> first | rfl | cases q
              refine ⟨pgs_cons (trP_ok hN nd hsc hc n e p q) a (by rw [hst]; rfl), by rw [hst]; simp [b], ?_⟩
              rw [hst, List.findIdx?_cons]
              simp [c]
      obtain ⟨a, b, c⟩ := key es ps hp
      exact pg_tl hc a b c
    | _ => cases h
end Py
set_option Elab.async false
set_option linter.all false
set_option maxRecDepth 100000
set_option maxHeartbeats 4000000
/-! PyW: list comprehensions. -/
namespace Py
open PySem PySem.Spec L2 PySem.SeqAt PyProof.Rows
theorem bnd_ok {α β : Type} {m : M α} {k : α → M β} {ρ ρ' : Env} {x : β} (h : M.bnd m k ρ = some (.ok x, ρ')) : ∃ a ρ1, m ρ = some (.ok a, ρ1) ∧ k a ρ1 = some (.ok x, ρ') := by
  unfold M.bnd at h
  cases q : m ρ with
  | none => rw [q] at h; cases h
  | some r =>
    obtain ⟨r, ρ1⟩ := r
    cases r with
    | ok a => rw [q] at h; exact ⟨a, ρ1, rfl, h⟩
    | ex _ => rw [q] at h; cases h
section
variable {Z : Wd} {B : Base} {F F' H H' : Hp} {σ σ2 : Sg} {ρ ρ0 ρ' : Env} {O O' : List Addr}
theorem plain_at {ρ : Env} {own : List Nat} (h : plainAt ρ own = true) {i : Nat} (hi : i ∈ own) : ρ[i]? = some .un ∨ ∃ d, ρ[i]? = some (.val d) := by
  unfold plainAt at h
  rw [List.all_eq_true] at h
  have := h i hi
  cases q : ρ[i]? with
  | none => rw [q] at this; cases this
  | some sl =>
    rw [q] at this
    cases sl with
    | un => exact .inl rfl
    | val d => exact .inr ⟨d, rfl⟩
    | own _ _ => cases this
theorem wipeE_get {own : List Nat} : ∀ {j : Nat}, (wipeE ρ own)[j]? = (if j ∈ own ∧ j < ρ.length then some .un else ρ[j]?) := by
  induction own with
  | nil => intro j; simp [wipeE]
  | cons i is ih =>
    intro j
    have hl : (wipeE ρ is).length = ρ.length := by
      clear ih
      induction is with
      | nil => rfl
      | cons k ks ih => show ((wipeE ρ ks).set k .un).length = _; rw [List.length_set, ih]
    show ((wipeE ρ is).set i .un)[j]? = _
    rw [List.getElem?_set]
    by_cases e : i = j
    · subst e
      rw [if_pos rfl, hl]
      by_cases hlt : i < ρ.length
      · rw [if_pos hlt, if_pos ⟨List.mem_cons_self, hlt⟩]
      · rw [if_neg hlt, if_neg (fun z => hlt z.2), List.getElem?_eq_none (by omega)]
    · rw [if_neg e, ih]
      have : (j ∈ i :: is) ↔ j ∈ is := by
        rw [List.mem_cons]
        exact ⟨fun h => h.elim (fun z => absurd z.symm e) id, .inr⟩
      simp only [this]
theorem backE_len {own : List Nat} : (backE ρ0 ρ own).length = ρ.length := by
  induction own with
  | nil => rfl
  | cons i is ih => show ((backE ρ0 ρ is).set i _).length = _; rw [List.length_set, ih]
theorem backE_get {own : List Nat} : ∀ {j : Nat}, (backE ρ0 ρ own)[j]? = (if j ∈ own ∧ j < ρ.length then some (ρ0.getD j .un) else ρ[j]?) := by
  induction own with
  | nil => intro j; simp [backE]
  | cons i is ih =>
    intro j
    show ((backE ρ0 ρ is).set i (ρ0.getD i .un))[j]? = _
    rw [List.getElem?_set]
    by_cases e : i = j
    · subst e
      rw [if_pos rfl, backE_len]
      by_cases hlt : i < ρ.length
      · rw [if_pos hlt, if_pos ⟨List.mem_cons_self, hlt⟩]
      · rw [if_neg hlt, if_neg (fun z => hlt z.2), List.getElem?_eq_none (by omega)]
    · rw [if_neg e, ih]
      have : (j ∈ i :: is) ↔ j ∈ is := by
        rw [List.mem_cons]
        exact ⟨fun h => h.elim (fun z => absurd z.symm e) id, .inr⟩
      simp only [this]
/-- a plain slot is emptied, whatever the frame says there -/
theorem Sx.wipe1 {x : Option VV} {i : Nat} (s : Sx Z B F H σ ρ O) (h : ρ[i]? = some .un ∨ ∃ d, ρ[i]? = some (.val d)) : Sx Z B F H (σ.set i x) (ρ.set i .un) O := by
  have s1 : SlR Z B.H0 F H σ (ρ.set i .un) B.io O := by
    rcases h with h | ⟨d, h⟩
    · have e : ρ.set i .un = ρ := by
        apply List.ext_getElem?
        intro j
        by_cases hj : i = j
        · subst hj; rw [set_get h, h]
        · rw [List.getElem?_set_ne hj]
      rw [e]; exact s.sl
    · exact s.sl.free_at h
  have e2 : (ρ.set i Slot.un)[i]? = some .un := by
    rcases h with h | ⟨d, h⟩ <;> exact set_get h
  exact ⟨s.fh, s.f0, s.h0, s.tb, s.ht, s.fn, s1.any_un e2, s.pr⟩
theorem Sx.wiped {own : List Nat} (s : Sx Z B F H σ ρ O) (p : plainAt ρ own = true) : Sx Z B F H (wipe σ own) (wipeE ρ own) O := by
  have key : ∀ is : List Nat, (∀ i ∈ is, i ∈ own) → Sx Z B F H (wipe σ is) (wipeE ρ is) O := by
    intro is
    induction is with
    | nil => intro _; exact s
    | cons i is ih =>
      intro hs
      have s1 := ih fun j hj => hs j (List.mem_cons_of_mem _ hj)
      refine s1.wipe1 (i := i) ?_
      rw [wipeE_get]
      by_cases c : i ∈ is ∧ i < ρ.length
      · rw [if_pos c]; exact .inl rfl
      · rw [if_neg c]; exact plain_at p (hs i List.mem_cons_self)
  exact key own fun _ h => h
/-- the block's own slots as they were -/
theorem Sx.backed {own : List Nat} (s : Sx Z B F H σ2 ρ O) (p : plainAt ρ own = true) (p0 : plainAt ρ0 own = true) (hl : σ2.length = σ.length) (same : ∀ j, j ∉ own → σ2[j]? = σ[j]?) (r0 : ∀ i ∈ own, ∀ d, ρ0[i]? = some (.val d) → ∃ v, σ[i]? = some (some v) ∧ Rp Z F v d) : Sx Z B F H σ (backE ρ0 ρ own) O := by
  have key : ∀ is : List Nat, (∀ i ∈ is, i ∈ own) → ∃ τ : Sg, τ.length = σ.length ∧ (∀ j, j ∉ own → τ[j]? = σ[j]?) ∧ (∀ j ∈ is, τ[j]? = σ[j]?) ∧ Sx Z B F H τ (backE ρ0 ρ is) O := by
    intro is
    induction is with
    | nil => intro _; exact ⟨σ2, hl, same, fun j hj => absurd hj (by simp), s⟩
    | cons i is ih =>
      intro hs
      obtain ⟨τ, l1, n1, m1, s1⟩ := ih fun j hj => hs j (List.mem_cons_of_mem _ hj)
      have hi := hs i List.mem_cons_self
      have pl : (backE ρ0 ρ is)[i]? = some .un ∨ ∃ d, (backE ρ0 ρ is)[i]? = some (.val d) := by
        rw [backE_get]
        by_cases c : i ∈ is ∧ i < ρ.length
        · rw [if_pos c]
          rcases plain_at p0 hi with e | ⟨d, e⟩
          · rw [List.getD, e]; exact .inl rfl
          · rw [List.getD, e]; exact .inr ⟨d, rfl⟩
        · rw [if_neg c]; exact plain_at p hi
      have hlt : i < σ.length := by
        have e1 := s1.sl.len.1
        rw [backE_len] at e1
        have : i < ρ.length := by
          rcases plain_at p hi with e | ⟨d, e⟩ <;> exact (List.getElem?_eq_some_iff.mp e).1
        omega
      have s2 := s1.wipe1 (i := i) (x := σ[i]) pl
      refine ⟨τ.set i σ[i], by simpa using l1, fun j hj => ?_, fun j hj => ?_, ?_⟩
      · rw [List.getElem?_set_ne fun z => hj (by rw [← z]; exact hi)]
        exact n1 j hj
      · rw [List.getElem?_set]
        by_cases e : i = j
        · subst e
          rw [if_pos rfl, if_pos (by omega), List.getElem?_eq_getElem hlt]
        · rw [if_neg e]
          exact m1 j ((List.mem_cons.mp hj).elim (fun z => absurd z.symm e) id)
      · show Sx Z B F H _ ((backE ρ0 ρ is).set i (ρ0.getD i .un)) O
        rcases plain_at p0 hi with e | ⟨d, e⟩
        · rw [List.getD, e]
          exact s2
        · rw [List.getD, e]
          obtain ⟨v, e3, rv⟩ := r0 i hi d e
          have e4 : ((backE ρ0 ρ is).set i Slot.un)[i]? = some .un := by rcases pl with z | ⟨_, z⟩ <;> exact set_get z
          have s3 := s2.sl.fill_val rv e4
          rw [List.set_set, List.set_set] at s3
          have e5 : some v = σ[i] := by
            rw [List.getElem?_eq_getElem hlt] at e3
            exact (Option.some.inj e3).symm
          rw [e5] at s3
          exact ⟨s2.fh, s2.f0, s2.h0, s2.tb, s2.ht, s2.fn, s3, s2.pr⟩
  obtain ⟨τ, l1, n1, m1, s1⟩ := key own fun _ h => h
  have e : τ = σ := by
    apply List.ext_getElem?
    intro j
    by_cases hj : j ∈ own
    · exact m1 j hj
    · exact n1 j hj
  rw [← e]
  exact s1
end
theorem wipe_get {σ : Sg} {own : List Nat} : ∀ {j : Nat}, j ∉ own → (wipe σ own)[j]? = σ[j]? := by
  induction own with
  | nil => intro j _; rfl
  | cons i is ih =>
    intro j hj
    show ((wipe σ is).set i none)[j]? = _
    rw [List.getElem?_set_ne fun z => hj (by simp [z]), ih fun z => hj (List.mem_cons_of_mem _ z)]
theorem wipe_at {σ : Sg} {own : List Nat} : ∀ {j : Nat}, j ∈ own → (wipe σ own)[j]? = if j < σ.length then some none else none := by
  induction own with
  | nil => intro j h; cases h
  | cons i is ih =>
    intro j hj
    show ((wipe σ is).set i none)[j]? = _
    rw [List.getElem?_set, wipe_length]
    by_cases e : i = j
    · subst e; rw [if_pos rfl]
    · rw [if_neg e]
      exact ih ((List.mem_cons.mp hj).elim (fun z => absurd z.symm e) id)
theorem wipe_same {σ σ2 : Sg} {own : List Nat} (hl : σ2.length = σ.length) (h : ∀ j, j ∉ own → σ2[j]? = σ[j]?) : wipe σ2 own = wipe σ own := by
  apply List.ext_getElem?
  intro j
  by_cases hj : j ∈ own
  · rw [wipe_at hj, wipe_at hj, hl]
  · rw [wipe_get hj, wipe_get hj, h j hj]
abbrev Wx0 : WX := fun _ _ _ _ => False
theorem takes0 {X : Cx} : Takes X Wx0 := fun _ _ x => by
  obtain ⟨_, _, _, _, _, _, _, _, _, _, _, _, _, _, _, _, z⟩ := x
  exact z.elim
section
variable {X : Cx} {cls : Nm} {Wx : WX} {C : Cfg}
/-- at most one test -/
inductive Tests (X : Cx) (cls : Nm) (C : Cfg) : List Ex → List E → TT → Prop where
  | nil : Tests X cls C [] [] tYes
  | one {c : Ex} {c' : E} : Tests X cls C [c] [c'] (tB (tF X cls Wx0 (fzM (den C c'))))
theorem g_lc {elt tg iter : Ex} {ifs : List Ex} {scope : Scope} {own : List (Str × Nat)} {pos : Pos} {p : Pat} {it' : It} {cs : List E} {e' : E} (hc : X.calm = true) (nd : X.N.Nodup) (ok : BlkOk X.N X.env.scope scope own)
    (hi : PI X tg iter (tI X cls Wx C it')) (hg : ∀ (s : Shared) (H : Hp) (D : Addr) (cl : List (Str × Addr)) (fp : List Addr), PG (X.blk s H scope (compEnvC scope cl D X.env) fp) tg (gP X.K p))
    (hcs : (ifs = [] ∧ cs = []) ∨ ∃ c c', ifs = [c] ∧ cs = [c'] ∧ ∀ (s : Shared) (H : Hp) (D : Addr) (cl : List (Str × Addr)) (fp : List Addr), Good (X.blk s H scope (compEnvC scope cl D X.env) fp) cls Wx0 C c c')
    (he : ∀ (s : Shared) (H : Hp) (D : Addr) (cl : List (Str × Addr)) (fp : List Addr), Good (X.blk s H scope (compEnvC scope cl D X.env) fp) cls Wx0 C elt e') (hs : ∀ x, foldedSetIterable iter X.env x = pure x)
    (hp : (patIx p).all ((own.map (·.2)).contains ·) = true) : Good X cls Wx C (.ListComp elt [⟨tg, iter, ifs, 0⟩] scope pos) (.lc p it' cs e' (own.map (·.2))) ∧ ∃ tt, (∀ (s : Shared) (H : Hp) (D : Addr) (cl : List (Str × Addr)) (fp : List Addr), PTs (X.blk s H scope (compEnvC scope cl D X.env) fp) ifs tt) ∧ ∀ σ H Q, tE X cls Wx (den C (.lc p it' cs e' (own.map (·.2)))) σ H Q → tLc (tI X cls Wx C it') (gP X.K p) tt (tF X cls Wx0 (fzM (den C e'))) (own.map (·.2)) σ H Q := by
  have hpo : ∀ j ∈ patIx p, j ∈ own.map (·.2) := fun j hj => by
    rw [List.all_eq_true] at hp
    simpa using hp j hj
  generalize hown : own.map (·.2) = ow at hpo
  have main : ∀ tt : TT, (∀ (Bx : Base) (F H : Hp) (σ : Sg) (ρ ρ' : Env) (O : List Addr) (b : Bool) (Q : Bool → Hp → Prop), Sx (zd X cls) Bx F H σ ρ O → denCs C cs ρ = some (.ok b, ρ') → (∀ F' H' O', Stp (zd X cls) Bx σ F H O F' H' ρ' O' → Q b H') → tt σ H Q) →
      ∀ σ H Q, tE X cls Wx (den C (.lc p it' cs e' ow)) σ H Q → tLc (tI X cls Wx C it') (gP X.K p) tt (tF X cls Wx0 (fzM (den C e'))) ow σ H Q := by
    intro tt htt σ H Q h
    obtain ⟨B, F, ρ, O, sx, h1⟩ := (show tE X cls Wx (M.bnd (denI C it') fun ds => fun ρ => if plainAt ρ ow then (M.bnd (noEx (lcM p ow (denCs C cs) (fzM (den C e')) ρ ds [])) fun xs => M.ret (.own (.lst xs))) ρ else none) σ H Q from h)
    refine ⟨B, F, ρ, O, sx, h1.seq (early_W _) fun ds J F1 H1 ρ1 O1 _ st gJ h2 => ?_⟩
    obtain ⟨r, ρ', hm, en⟩ := h2
    simp only at hm
    split at hm
    · rename_i hpl
      have hx : ∃ xs, lcM p ow (denCs C cs) (fzM (den C e')) ρ1 ds [] ρ1 = some (.ok xs, ρ') ∧ r = .ok (.own (.lst xs)) := by
        unfold M.bnd noEx at hm
        cases q : lcM p ow (denCs C cs) (fzM (den C e')) ρ1 ds [] ρ1 with
        | none => simp only [q] at hm; cases hm
        | some pr =>
          obtain ⟨r1, ρ2⟩ := pr
          cases r1 with
          | ex _ => simp only [q] at hm; cases hm
          | ok xs => simp only [q] at hm; cases hm; exact ⟨xs, rfl, rfl⟩
      obtain ⟨xs, hlc, rfl⟩ := hx
      intro D hD
      have hFD := sub_none st.sx.fh hD
      -- the invariant
      let W : Nat → Nat → Hp → Prop := fun i m H2 => m = ds.length - i ∧ i ≤ ds.length ∧ ∃ F2 ρ2 O2 acc vs, Stp (zd X cls) B σ F1 H1 O1 F2 H2 ρ2 O2 ∧ Sx (zd X cls) (B.more D) F2 H2 σ ρ2 O2 ∧ H2 D = some (.lst vs) ∧ RpL (zd X cls) F2 vs acc ∧ plainAt ρ2 ow = true ∧ lcM p ow (denCs C cs) (fzM (den C e')) ρ1 (ds.drop i) acc ρ2 = some (.ok xs, ρ')
      have gr : Gr cls.T F1 H1 F1 (upd H1 D (.lst [])) := Gr.own st.sx.fh hD
      refine ⟨W, ⟨ds.length, by simp, Nat.zero_le _, F1, ρ1, O1, [], [], Stp.gr st.sx gr, (st.sx.grow gr).more (by rw [upd_same]; simp) hFD (st.sx.new_O hD), upd_same, .nil, hpl, by simpa using hlc⟩, ?_⟩
      rintro i m H2 ⟨rfl, hi', F2, ρ2, O2, acc, vs, st2, sx2, hD2, lv, pl2, hl2⟩
      have hpr := sx2.pr D List.mem_cons_self
      by_cases hlt : i < ds.length
      · refine .inr ⟨gJ.go i H2 (st2.ff.tr st2.sx.fh) hlt, W (i + 1) (ds.length - (i + 1)), fun H' w => ⟨_, by omega, w⟩, fun x H' y => ?_⟩
        obtain ⟨F3, g3, r3⟩ := gJ.yld i ds[i] F2 H2 x H' st2.ff st2.sx.fh (List.getElem?_eq_getElem hlt) y
        rw [List.drop_eq_getElem_cons hlt] at hl2
        obtain ⟨_, ρa, ea, hl3⟩ := bnd_ok (show M.bnd (fun ρ => some (.ok (), wipeE ρ ow)) (fun _ => M.bnd (bindP p ds[i]) fun _ => M.bnd (denCs C cs) fun b => M.bnd (match b with
          | true => M.bnd (fzM (den C e')) fun x => if acc.length < lim then M.ret (acc ++ [x]) else M.stuck
          | false => M.ret acc) fun acc' => M.bnd (fun ρ => if plainAt ρ ow then some (.ok (), backE ρ1 ρ ow) else none) fun _ => lcM p ow (denCs C cs) (fzM (den C e')) ρ1 (ds.drop (i + 1)) acc') ρ2 = some (.ok xs, ρ') from hl2)
        cases ea
        obtain ⟨_, ρb, eb, hl4⟩ := bnd_ok hl3
        obtain ⟨b, ρc, ec, hl5⟩ := bnd_ok hl4
        obtain ⟨acc', ρd, ed, hl6⟩ := bnd_ok hl5
        obtain ⟨_, ρe, ee, hl7⟩ := bnd_ok hl6
        have hee : plainAt ρd ow = true ∧ ρe = backE ρ1 ρd ow := by
          have ee' : (if plainAt ρd ow = true then some (R.ok (), backE ρ1 ρd ow) else none) = some (R.ok _, ρe) := ee
          split at ee'
          · rename_i z; cases ee'; exact ⟨z, rfl⟩
          · cases ee'
        obtain ⟨pld, rfl⟩ := hee
        have sx3 := sx2.grow g3
        have st3 := st2.tr (Stp.gr st2.sx g3)
        have sw := sx3.wiped pl2
        have hD3 : H' D = some (.lst vs) := g3.hh D _ hD2 (fun _ z => nomatch z)
        have lv3 := RpL.mono g3.ff lv
        -- the end of a turn
        have turn : ∀ (σ2 : Sg) (F5 H5 : Hp) (O5 : List Addr) (ws : List VV), σ2.length = σ.length → (∀ j, j ∉ ow → σ2[j]? = σ[j]?) → Sx (zd X cls) (B.more D) F5 H5 σ2 ρd O5 → Sub F3 F5 → (∀ b ∈ O5, b ∈ O2) → (∀ b o, b ∉ O2 → b ≠ D → H' b = some o → NT o → H5 b = some o) → (∀ b, H' b ≠ none → H5 b ≠ none) → H5 D = some (.lst ws) → RpL (zd X cls) F5 ws acc' → W (i + 1) (ds.length - (i + 1)) H5 := by
          intro σ2 F5 H5 O5 ws hlen hsame s5 f5 o5 k5 t5 d5 l5
          have sb : Sx (zd X cls) (B.more D) F5 H5 σ (backE ρ1 ρd ow) O5 := s5.backed pld hpl hlen hsame fun j hj d hd => by
            obtain ⟨v, e1, e2⟩ := st.sx.sl.val_at hd
            exact ⟨v, e1, e2.mono (st2.ff.tr (g3.ff.tr f5))⟩
          have plb : plainAt (backE ρ1 ρd ow) ow = true := by
            unfold plainAt
            rw [List.all_eq_true]
            intro j hj
            rw [backE_get]
            have hlt2 : j < ρd.length := by
              rcases plain_at pld hj with e | ⟨d, e⟩ <;> exact (List.getElem?_eq_some_iff.mp e).1
            rw [if_pos ⟨hj, hlt2⟩]
            rcases plain_at hpl hj with e | ⟨d, e⟩
            · rw [List.getD, e]; rfl
            · rw [List.getD, e]; rfl
          refine ⟨rfl, hlt, F5, _, O5, acc', ws, ⟨sb.less, fun b hb => st3.oo b (o5 b hb), st3.ff.tr f5, fun b o n e n1 => ?_, fun b e => t5 b (st3.tt b e)⟩, sb, d5, l5, plb, hl7⟩
          have hbD : b ≠ D := fun z => by subst z; rw [hD] at e; cases e
          exact k5 b o (fun z => n (st2.oo b z)) hbD (st3.kk b o n e n1) n1
        refine bind_run p sw r3 eb fun _ σ2 O3 s4 c4 l4 n4 => ?_
        have hlen : σ2.length = σ.length := by rw [l4, wipe_length]
        have hsame : ∀ j, j ∉ ow → σ2[j]? = σ[j]? := fun j hj => by rw [n4 j fun z => hj (hpo j z), wipe_get hj]
        refine ⟨wipe_same hlen hsame, ?_⟩
        refine htt (B.more D) F3 H' σ2 ρb ρc O3 b _ s4 ec fun F4 H4 O4 st4 => ?_
        have hDO : D ∉ O3 := fun z => (s4.pr D List.mem_cons_self).2.2 z
        have hD4 : H4 D = some (.lst vs) := st4.kk D _ hDO hD3 (fun _ z => nomatch z)
        cases b with
        | false =>
          cases ed
          exact turn σ2 F4 H4 O4 vs hlen hsame st4.sx st4.ff (fun b hb => c4 b (st4.oo b hb)) (fun b o n _ e n1 => st4.kk b o (fun z => n (c4 b z)) e n1) st4.tt hD4 (lv3.mono st4.ff)
        | true =>
          obtain ⟨y, ρf, ef, hacc⟩ := bnd_ok (show M.bnd (fzM (den C e')) (fun x => if acc.length < lim then M.ret (acc ++ [x]) else M.stuck) ρc = some (.ok acc', ρd) from ed)
          have hacc2 : acc.length < lim ∧ acc' = acc ++ [y] ∧ ρd = ρf := by
            split at hacc
            · rename_i z; cases hacc; exact ⟨z, rfl, rfl⟩
            · cases hacc
          obtain ⟨hz, rfl, rfl⟩ := hacc2
          refine ⟨B.more D, F4, ρc, O4, st4.sx, .ok y, ρd, ef, fun v F5 H5 O5 st5 rv => ?_⟩
          have hDO4 : D ∉ O4 := fun z => (st4.sx.pr D List.mem_cons_self).2.2 z
          have hD5 : H5 D = some (.lst vs) := st5.kk D _ hDO4 hD4 (fun _ z => nomatch z)
          refine ⟨vs, hD5, by rw [RpL.length lv]; exact hz, ?_⟩
          have sc := st5.sx.chg_ex (o := .lst (vs ++ [v])) List.mem_cons_self (show (B.more D).H0 D = none from st.sx.new hD) ⟨_, hD5, fun _ z => nomatch z⟩
          refine turn σ2 F5 _ O5 (vs ++ [v]) hlen hsame sc (st4.ff.tr st5.ff) (fun b hb => c4 b (st4.oo b (st5.oo b hb))) (fun b o n nD e n1 => ?_) (fun b e => ?_) upd_same ((lv3.mono (st4.ff.tr st5.ff)).app (.cons rv .nil))
          · rw [upd_ne nD]
            exact st5.kk b o (fun z => n (c4 b (st4.oo b z))) (st4.kk b o (fun z => n (c4 b z)) e n1) n1
          · by_cases z : b = D
            · subst z; rw [upd_same]; simp
            · rw [upd_ne z]; exact st5.tt b (st4.tt b e)
      · have ei : i = ds.length := by omega
        subst ei
        rw [List.drop_length] at hl2
        cases hl2
        refine .inl ⟨gJ.stop _ H2 (st2.ff.tr st2.sx.fh) (Nat.le_refl _), ?_⟩
        exact en (.ref D) F2 H2 O2 st2 ⟨[D], ⟨D, rfl, ⟨rfl, vs, hD2, lv⟩, fun b hb => by simp at hb; subst hb; exact hpr.2.1, by simp⟩, fun b hb => by simp at hb; subst hb; exact hD⟩
    · cases hm
  have tests : ∃ tt, (∀ (s : Shared) (H : Hp) (D : Addr) (cl : List (Str × Addr)) (fp : List Addr), PTs (X.blk s H scope (compEnvC scope cl D X.env) fp) ifs tt) ∧ ∀ (Bx : Base) (F H : Hp) (σ : Sg) (ρ ρ' : Env) (O : List Addr) (b : Bool) (Q : Bool → Hp → Prop), Sx (zd X cls) Bx F H σ ρ O → denCs C cs ρ = some (.ok b, ρ') → (∀ F' H' O', Stp (zd X cls) Bx σ F H O F' H' ρ' O' → Q b H') → tt σ H Q := by
    rcases hcs with ⟨rfl, rfl⟩ | ⟨c, c', rfl, rfl, gc⟩
    · refine ⟨tYes, fun _ _ _ _ _ => pts_nil, fun Bx F H σ ρ ρ' O b Q s e k => ?_⟩
      have e' : (M.ret true : M Bool) ρ = some (.ok b, ρ') := e
      cases e'
      exact k F H O (Stp.rfl s)
    · refine ⟨tB (tF X cls Wx0 (fzM (den C c'))), fun s H D cl fp => pts_one (gc s H D cl fp).fzt, fun Bx F H σ ρ ρ' O b Q s e k => ?_⟩
      obtain ⟨d, ρ1, e1, e2⟩ := bnd_ok (show M.bnd (fzM (den C c')) (fun d => match d with | .bl true => denCs C [] | .bl false => M.ret false | _ => M.stuck) ρ = some (.ok b, ρ') from e)
      refine ⟨Bx, F, ρ, O, s, .ok d, ρ1, e1, fun v F' H' O' st rv => ?_⟩
      cases d with
      | bl k' =>
        cases rv
        have z : b = k' ∧ ρ' = ρ1 := by cases k' <;> (cases e2; exact ⟨rfl, rfl⟩)
        obtain ⟨rfl, rfl⟩ := z
        exact ⟨_, rfl, k F' H' O' st⟩
      | _ => cases e2
  obtain ⟨tt, h1, h2⟩ := tests
  have pe : PE X (.ListComp elt [⟨tg, iter, ifs, 0⟩] scope pos) (tE X cls Wx (den C (.lc p it' cs e' ow))) := by
    have := pe_lc (elt := elt) (te := tF X cls Wx0 (fzM (den C e'))) (pos := pos) hc nd hi ok hg h1 (fun s H D cl fp => (he s H D cl fp).fz) hs
    rw [hown] at this
    exact this.mono (main tt h2)
  exact ⟨⟨pe, pt_of pe (by intro _; rfl), fun i h => by cases h⟩, tt, h1, main tt h2⟩
/-- {k: v for p in nothing} -/
theorem g_dc {kx vx tg iter : Ex} {scope : Scope} {own : List (Str × Nat)} {pos : Pos} {p : Pat} {it' : It} {k' v' : E} {ow : List Nat} (hc : X.calm = true) (nd : X.N.Nodup) (ok : BlkOk X.N X.env.scope scope own)
    (hi : PI X tg iter (tI X cls Wx C it')) (hg : ∀ (s : Shared) (H : Hp) (D : Addr) (cl : List (Str × Addr)) (fp : List Addr), PG (X.blk s H scope (compEnvC scope cl D X.env) fp) tg (gP X.K p))
    (hk : ∀ (s : Shared) (H : Hp) (D : Addr) (cl : List (Str × Addr)) (fp : List Addr), Good (X.blk s H scope (compEnvC scope cl D X.env) fp) cls Wx0 C kx k')
    (hv : ∀ (s : Shared) (H : Hp) (D : Addr) (cl : List (Str × Addr)) (fp : List Addr), Good (X.blk s H scope (compEnvC scope cl D X.env) fp) cls Wx0 C vx v') (hs : ∀ x, foldedSetIterable iter X.env x = pure x) :
    Good X cls Wx C (.DictComp kx vx [⟨tg, iter, [], 0⟩] scope pos) (.dc p it' k' v' ow) := by
  have pe : PE X (.DictComp kx vx [⟨tg, iter, [], 0⟩] scope pos) (tE X cls Wx (den C (.dc p it' k' v' ow))) := by
    have rule := pe_dc (kx := kx) (vx := vx) (tk := tF X cls Wx0 (fzM (den C k'))) (tv := tF X cls Wx0 (fzM (den C v'))) (pos := pos) hc nd hi ok hg (fun _ _ _ _ _ => pts_nil) (fun s H D cl fp => (hk s H D cl fp).fz) (fun s H D cl fp => (hv s H D cl fp).fz) hs
    refine rule.mono fun σ H Q h => ?_
    obtain ⟨B, F, ρ, O, sx, h1⟩ := (show tE X cls Wx (M.bnd (denI C it') fun ds => match ds with | [] => M.ret (.own (.dic [] [])) | _ => M.stuck) σ H Q from h)
    refine ⟨B, F, ρ, O, sx, h1.seq (early_W _) fun ds J F1 H1 ρ1 O1 _ st gJ h2 => ?_⟩
    cases ds with
    | cons d ds => exact h2.stuck.elim
    | nil =>
      intro D hD
      have af := h2.after st.sx
      have gr : Gr cls.T F1 H1 F1 (upd H1 D (.dK [])) := Gr.own st.sx.fh hD
      refine ⟨fun i m H' => i = 0 ∧ H' = upd H1 D (.dK []), ⟨0, rfl, rfl⟩, ?_⟩
      rintro i m H' ⟨rfl, rfl⟩
      refine .inl ⟨gJ.stop 0 _ gr.fh (Nat.zero_le _), ?_⟩
      exact af (.ref D) F1 _ [D] gr ⟨D, rfl, ⟨⟨rfl, [], [], upd_same, rfl, List.nodup_nil, rfl, .nil⟩, fun b hb => by simp at hb; subst hb; exact sub_none st.sx.fh hD, by simp⟩⟩ fun b hb => by simp at hb; subst hb; exact hD
  exact ⟨pe, pt_of pe (by intro _; rfl), fun i h => by cases h⟩
end
end Py
set_option Elab.async false
set_option linter.all false
set_option maxRecDepth 100000
set_option maxHeartbeats 4000000
/-! PyX: statements. -/
namespace Py
open PySem PySem.Spec L2 PySem.SeqAt PyProof.Rows
variable {Xw : XK}
/-- from one state to a later one; slots may be stored to -/
structure StpS (Z : Wd) (B : Base) (σ : Sg) (F H : Hp) (O : List Addr) (σ' : Sg) (F' H' : Hp) (ρ' : Env) (O' : List Addr) : Prop where
  sx : Sx Z B F' H' σ' ρ' O'
  oo : ∀ b ∈ O', b ∈ O ∨ H b = none
  ff : Sub F F'
  kk : ∀ b o, b ∉ O → H b = some o → NT o → H' b = some o
  tt : ∀ b, H b ≠ none → H' b ≠ none
section
variable {Z : Wd} {B : Base} {σ σ1 σ2 : Sg} {F H F1 H1 F2 H2 : Hp} {ρ ρ1 ρ2 : Env} {O O1 O2 : List Addr}
theorem StpS.rfl (s : Sx Z B F H σ ρ O) : StpS Z B σ F H O σ F H ρ O := ⟨s, fun _ h => .inl h, Sub.rfl, fun _ _ _ e _ => e, fun _ h => h⟩
theorem StpS.of (a : Stp Z B σ F H O F1 H1 ρ1 O1) : StpS Z B σ F H O σ F1 H1 ρ1 O1 := ⟨a.sx, fun b h => .inl (a.oo b h), a.ff, a.kk, a.tt⟩
theorem StpS.tr (a : StpS Z B σ F H O σ1 F1 H1 ρ1 O1) (b : StpS Z B σ1 F1 H1 O1 σ2 F2 H2 ρ2 O2) : StpS Z B σ F H O σ2 F2 H2 ρ2 O2 := by
  refine ⟨b.sx, fun x h => ?_, a.ff.tr b.ff, fun x o n e n1 => b.kk x o (fun z => ?_) (a.kk x o n e n1) n1, fun x h => b.tt x (a.tt x h)⟩
  · rcases b.oo x h with z | z
    · exact a.oo x z
    · refine .inr ?_
      cases q : H x with
      | none => exact Eq.refl _
      | some o => exact absurd z (a.tt x (by rw [q]; simp))
  · rcases a.oo x z with z | z
    · exact n z
    · rw [z] at e; cases e
end
/-- what is wished of an exception, wherever it is -/
abbrev wE (E : XK) : WX := fun cls dx _ H => E cls dx H
def EndS (Z : Wd) (B : Base) (Xw : XK) (σ : Sg) (F H : Hp) (O : List Addr) (D : Ends) : R Fl → Env → Prop
  | .ok .nx, ρ' => ∀ σ' F' H' O', StpS Z B σ F H O σ' F' H' ρ' O' → D.nx σ' H'
  | .ok .bk, ρ' => ∀ σ' F' H' O', StpS Z B σ F H O σ' F' H' ρ' O' → D.bk σ' H'
  | .ok .ct, ρ' => ∀ σ' F' H' O', StpS Z B σ F H O σ' F' H' ρ' O' → D.ct σ' H'
  | .ok (.rt w), ρ' => ∀ v σ' F' H' O' fp, StpS Z B σ F H O σ' F' H' ρ' O' → WR Z F' H' v fp w → (∀ b ∈ fp, (H b = none ∨ b ∈ O) ∧ b ∉ O') → D.rt v H'
  | .ex x, ρ' => ∀ cl dx σ' F' H' O', StpS Z B σ F H O σ' F' H' ρ' O' → ExR Z F' x cl dx → Xw cl dx H'
def RunS (Z : Wd) (B : Base) (Xw : XK) (m : M Fl) (σ : Sg) (F H : Hp) (ρ : Env) (O : List Addr) (D : Ends) : Prop := ∃ r ρ', m ρ = some (r, ρ') ∧ EndS Z B Xw σ F H O D r ρ'
def tSt (Z : Wd) (Xw : XK) (m : M Fl) : TS := fun D σ H => ∃ B F ρ O, Sx Z B F H σ ρ O ∧ RunS Z B Xw m σ F H ρ O D
theorem bnd_inv {α β : Type} {m : M α} {k : α → M β} {ρ ρ' : Env} {r : R β} (h : M.bnd m k ρ = some (r, ρ')) : (∃ x, m ρ = some (.ex x, ρ') ∧ r = .ex x) ∨ ∃ a ρ1, m ρ = some (.ok a, ρ1) ∧ k a ρ1 = some (r, ρ') := by
  unfold M.bnd at h
  cases q : m ρ with
  | none => rw [q] at h; cases h
  | some pr =>
    obtain ⟨r1, ρ1⟩ := pr
    cases r1 with
    | ok a => rw [q] at h; exact .inr ⟨a, ρ1, rfl, h⟩
    | ex x => rw [q] at h; cases h; exact .inl ⟨x, rfl, rfl⟩
/-- nothing is raised -/
class NX {α : Type} (m : M α) : Prop where
  nx : ∀ ρ x ρ', m ρ ≠ some (R.ex x, ρ')
instance nx_setV (i : Nat) (w : W) : NX (setV i w) := ⟨fun ρ x ρ' h => by
  obtain ⟨sl, hs, hk, z, _⟩ := setV_some h
  cases z⟩
instance nx_ret {α : Type} (a : α) : NX (M.ret a) := ⟨fun ρ x ρ' h => by cases h⟩
instance nx_stuck {α : Type} : NX (M.stuck : M α) := ⟨fun ρ x ρ' h => by cases h⟩
theorem nx_bnd {α β : Type} {m : M α} {k : α → M β} (a : NX m) (b : ∀ x, NX (k x)) : NX (M.bnd m k) := ⟨fun ρ x ρ' h => by
  rcases bnd_inv h with ⟨y, e, z⟩ | ⟨y, ρ1, e1, e2⟩
  · exact a.nx _ _ _ e
  · exact (b y).nx _ _ _ e2⟩
instance nx_chg (i : Nat) (f : Ob → Option Ob) : NX (chg i f) := ⟨fun ρ x ρ' h => by
  unfold chg at h
  split at h
  · split at h
    · cases h
    · cases h
  · cases h⟩
instance nx_holds (i : Nat) (f : Ob → Bool) : NX (holds i f) := ⟨fun ρ x ρ' h => by
  unfold holds at h
  split at h
  · split at h
    · cases h
    · cases h
  · cases h⟩
instance nx_sameC (i : Nat) (cs : List Int) : NX (sameC i cs) := ⟨fun ρ x ρ' h => by
  unfold sameC at h
  split at h
  · cases h
  · cases h⟩
mutual
theorem nx_bindP : ∀ (p : Pat) (d : D), NX (bindP p d)
  | .name i, d => nx_setV i (.val d)
  | .tup ps, .tup ds => by
    show NX (if ps.length = ds.length then bindPs ps ds else M.stuck)
    by_cases h : ps.length = ds.length
    · rw [if_pos h]; exact nx_bindPs ps ds
    · rw [if_neg h]; exact nx_stuck
  | .tup ps, .non => nx_stuck
  | .tup ps, .bl _ => nx_stuck
  | .tup ps, .int _ => nx_stuck
  | .tup ps, .str _ => nx_stuck
  | .tup ps, .lst ds => by
    show NX (if ps.length = ds.length then bindPs ps ds else M.stuck)
    by_cases h : ps.length = ds.length
    · rw [if_pos h]; exact nx_bindPs ps ds
    · rw [if_neg h]; exact nx_stuck
  | .tup ps, .dic _ _ => nx_stuck
  | .tup ps, .ins _ _ _ => nx_stuck
  | .tup ps, .scr _ => nx_stuck
  | .tup ps, .exc .. => nx_stuck
theorem nx_bindPs : ∀ (ps : List Pat) (ds : List D), NX (bindPs ps ds)
  | [], [] => nx_ret ()
  | p :: ps, d :: ds => nx_bnd (nx_bindP p d) fun _ => nx_bindPs ps ds
  | [], _ :: _ => nx_stuck
  | _ :: _, [] => nx_stuck
end
instance nx_bindP_i (p : Pat) (d : D) : NX (bindP p d) := nx_bindP p d
theorem nx_setVs : ∀ (is : List Nat) (ws : List W), NX (setVs is ws)
  | [], [] => nx_ret ()
  | i :: is, w :: ws => nx_bnd (nx_setV i w) fun _ => nx_setVs is ws
  | [], _ :: _ => nx_stuck
  | _ :: _, [] => nx_stuck
instance nx_setVs_i (is : List Nat) (ws : List W) : NX (setVs is ws) := nx_setVs is ws
section
variable {Z : Wd} {B : Base} {σ σ1 : Sg} {F H F1 H1 : Hp} {ρ ρ1 : Env} {O O1 : List Addr} {D : Ends}
theorem EndS.later {r : R Fl} {ρ' : Env} (a : StpS Z B σ F H O σ1 F1 H1 ρ1 O1) (h : EndS Z B Xw σ F H O D r ρ') : EndS Z B Xw σ1 F1 H1 O1 D r ρ' := by
  cases r with
  | ex x => exact fun cl dx σ' F' H' O' s xr => h cl dx σ' F' H' O' (a.tr s) xr
  | ok f =>
    cases f with
    | nx => exact fun σ' F' H' O' s => h σ' F' H' O' (a.tr s)
    | bk => exact fun σ' F' H' O' s => h σ' F' H' O' (a.tr s)
    | ct => exact fun σ' F' H' O' s => h σ' F' H' O' (a.tr s)
    | rt d => exact fun v σ' F' H' O' fp s rp nw => h v σ' F' H' O' fp (a.tr s) rp fun b hb => ⟨by
        rcases (nw b hb).1 with z | z
        · cases q : H b with
          | none => exact .inl rfl
          | some o => exact absurd z (a.tt b (by rw [q]; simp))
        · exact (a.oo b z).elim .inr .inl, (nw b hb).2⟩
/-- an expression, then the rest -/
theorem RunS.expr {α β : Type} {P : Rl α β} {m : M α} {k : α → M Fl} {K : β → Hp → Prop} (h : RunS Z B Xw (M.bnd m k) σ F H ρ O D)
    (c : ∀ a x F1 H1 ρ1 O1, Stp Z B σ F H O F1 H1 ρ1 O1 → P F1 H1 H ρ1 x a → RunS Z B Xw (k a) σ F1 H1 ρ1 O1 D → K x H1) : Run Z B (wE Xw) P m σ F H ρ O K := by
  obtain ⟨r, ρ', hm, en⟩ := h
  rcases bnd_inv hm with ⟨x, e0, rfl⟩ | ⟨a, ρ1, e1, e2⟩
  · exact ⟨.ex x, ρ', e0, fun F1 H1 O1 cl dx st xr => en cl dx σ F1 H1 O1 (.of st) xr⟩
  · exact ⟨.ok a, ρ1, e1, fun x F1 H1 O1 st p => c a x F1 H1 ρ1 O1 st p ⟨r, ρ', e2, en.later (.of st)⟩⟩
/-- the same, told from the entry -/
theorem RunS.raw {α β : Type} {P : Rl α β} {m : M α} {k : α → M Fl} {K : β → Hp → Prop} (h : RunS Z B Xw (M.bnd m k) σ F H ρ O D)
    (c : ∀ a x F1 H1 ρ1 O1 r ρ', Stp Z B σ F H O F1 H1 ρ1 O1 → P F1 H1 H ρ1 x a → k a ρ1 = some (r, ρ') → EndS Z B Xw σ F H O D r ρ' → K x H1) : Run Z B (wE Xw) P m σ F H ρ O K := by
  obtain ⟨r, ρ', hm, en⟩ := h
  rcases bnd_inv hm with ⟨x, e0, rfl⟩ | ⟨a, ρ1, e1, e2⟩
  · exact ⟨.ex x, ρ', e0, fun F1 H1 O1 cl dx st xr => en cl dx σ F1 H1 O1 (.of st) xr⟩
  · exact ⟨.ok a, ρ1, e1, fun x F1 H1 O1 st p => c a x F1 H1 ρ1 O1 r ρ' st p e2 en⟩
theorem nxt_inv0 {m : M Unit} [nm : NX m] {ρ1 ρ' : Env} {r : R Fl} (h : nxt m ρ1 = some (r, ρ')) (en : EndS Z B Xw σ F H O D r ρ') : m ρ1 = some (.ok (), ρ') ∧ ∀ σ' F' H' O', StpS Z B σ F H O σ' F' H' ρ' O' → D.nx σ' H' := by
  rcases bnd_inv h with ⟨x, e0, rfl⟩ | ⟨a, ρ1, e1, e2⟩
  · exact absurd e0 (nm.nx _ _ _)
  · cases e2
    exact ⟨e1, en⟩
/-- one statement, then the rest -/
theorem RunS.seq {m k : M Fl} (s : Sx Z B F H σ ρ O) (h : RunS Z B Xw (M.bnd m fun f => match f with | .nx => k | f => M.ret f) σ F H ρ O D) : RunS Z B Xw m σ F H ρ O { D with nx := tSt Z Xw k D } := by
  obtain ⟨r, ρ', hm, en⟩ := h
  rcases bnd_inv hm with ⟨x, e0, rfl⟩ | ⟨a, ρ1, e1, e2⟩
  · exact ⟨.ex x, ρ', e0, en⟩
  · refine ⟨.ok a, ρ1, e1, ?_⟩
    cases a with
    | nx => exact fun σ' F' H' O' st => ⟨B, F', ρ1, O', st.sx, r, ρ', e2, en.later st⟩
    | bk => cases e2; exact en
    | ct => cases e2; exact en
    | rt d => cases e2; exact en
theorem RunS.nx {a : Unit} (h : RunS Z B Xw (nxt (M.ret a)) σ F H ρ O D) (s : Sx Z B F H σ ρ O) : D.nx σ H := by
  obtain ⟨r, ρ', hm, en⟩ := h
  cases hm
  exact en σ F H O (.rfl s)
/-- a store ends it -/
theorem nxt_inv {m : M Unit} [nm : NX m] (h : RunS Z B Xw (nxt m) σ F H ρ O D) : (∃ ρ', m ρ = some (.ok (), ρ') ∧ ∀ σ' F' H' O', StpS Z B σ F H O σ' F' H' ρ' O' → D.nx σ' H') := by
  obtain ⟨r, ρ', hm, en⟩ := h
  rcases bnd_inv hm with ⟨x, e0, rfl⟩ | ⟨a, ρ1, e1, e2⟩
  · exact absurd e0 (nm.nx _ _ _)
  · cases e2
    exact ⟨ρ', e1, en⟩
/-- a value is stored -/
theorem stp_set {F2 H2 : Hp} {ρ2 ρ3 : Env} {i : Nat} {w : W} {v : VV} {fp : List Addr} {r : R Unit} (s0 : Sx Z B F H σ ρ O) (st : StpS Z B σ F H O σ1 F1 H1 ρ1 O1) (wr : WR Z F1 H1 v fp w) (nw : ∀ b ∈ fp, H b = none) (nO : ∀ b ∈ fp, b ∉ O1) (h : setV i w ρ1 = some (r, ρ2)) :
    r = .ok () ∧ ∃ O2, StpS Z B σ F H O (σ1.set i (some v)) F1 H1 ρ2 O2 ∧ ∀ b ∈ O2, b ∈ fp ∨ b ∈ O1 := by
  obtain ⟨sl, hs, hk, rfl, rfl⟩ := setV_some h
  refine ⟨rfl, ?_⟩
  cases w with
  | val d =>
    obtain ⟨O2, c, s'⟩ := st.sx.set_val hs hk wr.1
    exact ⟨O2, ⟨s', fun b hb => st.oo b (c b hb), st.ff, st.kk, st.tt⟩, fun b hb => .inr (c b hb)⟩
  | own o =>
    obtain ⟨p, rfl, w⟩ := wr
    obtain ⟨O2, c, s'⟩ := st.sx.set_own hs hk w (fun b hb => s0.new (nw b hb)) nO fun b hb z => (s0.pr b z).1 (nw b hb)
    exact ⟨O2, ⟨s', fun b hb => (c b hb).elim (fun z => .inr (nw b z)) (st.oo b), st.ff, st.kk, st.tt⟩, c⟩
end
section
variable {X : Cx} {cls : Nm} {C : Cfg}
abbrev tS (X : Cx) (cls : Nm) (Xw : XK) (m : M Fl) : TS := tSt (zd X cls) Xw m
theorem s_set {i : Nat} {e' : E} {D : Ends} {σ : Sg} {H : Hp} (h : tS X cls Xw (denS C (.set i e')) D σ H) : tAsg (tE X cls (wE Xw) (den C e')) (gName i) D σ H := by
  obtain ⟨B, F, ρ, O, s, h1⟩ := (show tS X cls Xw (M.bnd (den C e') fun w => nxt (setV i w)) D σ H from h)
  refine ⟨B, F, ρ, O, s, h1.raw (P := pW (zd X cls)) fun w v F1 H1 ρ1 O1 r ρ' st ⟨fp, wr, nw⟩ h2 en => ?_⟩
  obtain ⟨e2, en⟩ := nxt_inv0 h2 en
  obtain ⟨_, O2, st2, _⟩ := stp_set (F2 := F1) (H2 := H1) (ρ3 := ρ1) s (.of st) wr nw (fun b hb z => (s.sl.there b (st.oo b z)).1 (nw b hb)) e2
  exact en _ F1 H1 O2 st2
theorem s_expr {e' : E} {D : Ends} {σ : Sg} {H : Hp} (h : tS X cls Xw (denS C (.expr e')) D σ H) : tDrop (tF X cls (wE Xw) (fzM (den C e'))) D σ H := by
  obtain ⟨B, F, ρ, O, s, h1⟩ := (show tS X cls Xw (M.bnd (fzM (den C e')) fun _ => M.ret .nx) D σ H from h)
  refine ⟨B, F, ρ, O, s, h1.expr (P := pD (zd X cls)) fun w v F1 H1 ρ1 O1 st _ h2 => ?_⟩
  obtain ⟨r, ρ', hm, en⟩ := h2
  cases hm
  exact en σ F1 H1 O1 (.rfl st.sx)
theorem s_ret {e' : E} {D : Ends} {σ : Sg} {H : Hp} (h : tS X cls Xw (denS C (.ret e')) D σ H) : tRet (tF X cls (wE Xw) (fzM (den C e'))) D σ H := by
  obtain ⟨B, F, ρ, O, s, h1⟩ := (show tS X cls Xw (M.bnd (fzM (den C e')) fun d => M.ret (.rt (.val d))) D σ H from h)
  refine ⟨B, F, ρ, O, s, h1.expr (P := pD (zd X cls)) fun w v F1 H1 ρ1 O1 st rv h2 => ?_⟩
  obtain ⟨r, ρ', hm, en⟩ := h2
  cases hm
  exact en v σ F1 H1 O1 [] (.rfl st.sx) ⟨rv, rfl⟩ (fun b hb => (nomatch hb))
theorem s_iff {c' : E} {a b : List S} {D : Ends} {σ : Sg} {H : Hp} (h : tS X cls Xw (denS C (.iff c' a b)) D σ H) : tIfS (tB (tF X cls (wE Xw) (fzM (den C c')))) (tS X cls Xw (denSs C a)) (tS X cls Xw (denSs C b)) D σ H := by
  obtain ⟨B, F, ρ, O, s, h1⟩ := (show tS X cls Xw (M.bnd (fzM (den C c')) fun d => iffM d (denSs C a) (denSs C b)) D σ H from h)
  refine ⟨B, F, ρ, O, s, h1.expr (P := pD (zd X cls)) fun d v F1 H1 ρ1 O1 st rv h2 => ?_⟩
  cases d with
  | bl k =>
    cases rv
    refine ⟨k, rfl, ?_⟩
    cases k with
    | true => exact ⟨B, F1, ρ1, O1, st.sx, h2⟩
    | false => exact ⟨B, F1, ρ1, O1, st.sx, h2⟩
  | _ => obtain ⟨r, ρ', hm, en⟩ := h2; cases hm
theorem s_seq {a : S} {r : List S} {D : Ends} {σ : Sg} {H : Hp} (h : tS X cls Xw (denSs C (a :: r)) D σ H) : tSeq (tS X cls Xw (denS C a)) (tS X cls Xw (denSs C r)) D σ H := by
  obtain ⟨B, F, ρ, O, s, h1⟩ := (show tS X cls Xw (M.bnd (denS C a) fun f => match f with | .nx => denSs C r | f => M.ret f) D σ H from h)
  exact ⟨B, F, ρ, O, s, h1.seq s⟩
theorem s_nil {D : Ends} {σ : Sg} {H : Hp} (h : tS X cls Xw (denSs C []) D σ H) : tNext D σ H := by
  obtain ⟨B, F, ρ, O, s, r, ρ', hm, en⟩ := h
  cases hm
  exact en σ F H O (.rfl s)
theorem s_skip {D : Ends} {σ : Sg} {H : Hp} (h : tS X cls Xw (denS C .skip) D σ H) : tNext D σ H := by
  obtain ⟨B, F, ρ, O, s, r, ρ', hm, en⟩ := h
  cases hm
  exact en σ F H O (.rfl s)
theorem s_stk {D : Ends} {σ : Sg} {H : Hp} (h : tS X cls Xw (denS C .stk) D σ H) : False := by
  obtain ⟨B, F, ρ, O, s, r, ρ', hm, en⟩ := h
  cases hm
theorem s_brk {D : Ends} {σ : Sg} {H : Hp} (h : tS X cls Xw (denS C .brk) D σ H) : tBreak D σ H := by
  obtain ⟨B, F, ρ, O, s, r, ρ', hm, en⟩ := h
  cases hm
  exact en σ F H O (.rfl s)
theorem s_cont {D : Ends} {σ : Sg} {H : Hp} (h : tS X cls Xw (denS C .cont) D σ H) : tCont D σ H := by
  obtain ⟨B, F, ρ, O, s, r, ρ', hm, en⟩ := h
  cases hm
  exact en σ F H O (.rfl s)
/-- p = e, p a target of several names -/
theorem s_setp {p : Pat} {e' : E} {D : Ends} {σ : Sg} {H : Hp} (h : tS X cls Xw (denS C (.setp p e')) D σ H) : tAsg (tF X cls (wE Xw) (fzM (den C e'))) (gP X.K p) D σ H := by
  obtain ⟨B, F, ρ, O, s, h1⟩ := (show tS X cls Xw (M.bnd (fzM (den C e')) fun d => nxt (bindP p d)) D σ H from h)
  refine ⟨B, F, ρ, O, s, h1.expr (P := pD (zd X cls)) fun d v F1 H1 ρ1 O1 st rv h2 => ?_⟩
  obtain ⟨ρ2, e2, en⟩ := nxt_inv h2
  exact bind_run p st.sx rv e2 fun _ σ' O' s' c' _ _ => en σ' F1 H1 O' ⟨s', fun b hb => .inl (c' b hb), Sub.rfl, fun _ _ _ e _ => e, fun _ e => e⟩
/-! ### loops -/
theorem s_for {p : Pat} {it' : It} {body : List S} {D : Ends} {σ : Sg} {H : Hp} (h : tS X cls Xw (denS C (.for_ p it' body)) D σ H) : tFor (tI X cls (wE Xw) C it') (gP X.K p) (tS X cls Xw (denSs C body)) D σ H := by
  obtain ⟨B, F, ρ, O, s, h1⟩ := (show tS X cls Xw (M.bnd (denI C it') fun ds => forM p (denSs C body) ds) D σ H from h)
  refine ⟨B, F, ρ, O, s, h1.expr (P := pJ (zd X cls)) fun ds J F1 H1 ρ1 O1 st gJ h2 => ?_⟩
  let W : Nat → Nat → Sg → Hp → Prop := fun i m σ2 H2 => m = ds.length - i ∧ i ≤ ds.length ∧ ∃ F2 ρ2 O2, Sx (zd X cls) B F2 H2 σ2 ρ2 O2 ∧ Sub F1 F2 ∧ RunS (zd X cls) B Xw (forM p (denSs C body) (ds.drop i)) σ2 F2 H2 ρ2 O2 D
  refine ⟨W, ⟨ds.length, by simp, Nat.zero_le _, F1, ρ1, O1, st.sx, Sub.rfl, by simpa using h2⟩, ?_⟩
  rintro i m σ2 H2 ⟨rfl, hi, F2, ρ2, O2, s2, f2, r2⟩
  by_cases hlt : i < ds.length
  · refine .inr ⟨gJ.go i H2 (f2.tr s2.fh) hlt, fun σ' H' => W (i + 1) (ds.length - (i + 1)) σ' H', fun σ' H' w => ⟨_, by omega, w⟩, fun x H' y => ?_⟩
    obtain ⟨F3, g3, r3⟩ := gJ.yld i ds[i] F2 H2 x H' f2 s2.fh (List.getElem?_eq_getElem hlt) y
    have s3 := s2.grow g3
    have st3 : StpS (zd X cls) B σ2 F2 H2 O2 σ2 F3 H' ρ2 O2 := .of (Stp.gr s2 g3)
    rw [List.drop_eq_getElem_cons hlt] at r2
    obtain ⟨r, ρ', hm, en⟩ := (show RunS (zd X cls) B Xw (M.bnd (bindP p ds[i]) fun _ => M.bnd (denSs C body) fun f => match f with
      | .nx | .ct => forM p (denSs C body) (ds.drop (i + 1))
      | .bk => M.ret .nx
      | .rt d => M.ret (.rt d)) σ2 F2 H2 ρ2 O2 D from r2)
    rcases bnd_inv hm with ⟨x, e0, rfl⟩ | ⟨a, ρ3, e3, e4⟩
    · exact absurd e0 (nx_bindP _ _ |>.nx _ _ _)
    · refine bind_run p s3 r3 e3 fun _ σ4 O4 s4 c4 l4 n4 => ?_
      have st4 : StpS (zd X cls) B σ2 F2 H2 O2 σ4 F3 H' ρ3 O4 := st3.tr ⟨s4, fun b hb => .inl (c4 b hb), Sub.rfl, fun _ _ _ e _ => e, fun _ e => e⟩
      rcases bnd_inv e4 with ⟨x, e5, rfl⟩ | ⟨f, ρ5, e5, e6⟩
      · exact ⟨B, F3, ρ3, O4, s4, .ex x, ρ', e5, fun cl dx σ' F' H'' O' st5 xr => en cl dx σ' F' H'' O' (st4.tr st5) xr⟩
      · refine ⟨B, F3, ρ3, O4, s4, .ok f, ρ5, e5, ?_⟩
        cases f with
        | nx => exact fun σ' F' H'' O' st5 => ⟨rfl, hlt, F', ρ5, O', st5.sx, f2.tr (g3.ff.tr st5.ff), r, ρ', e6, en.later (st4.tr st5)⟩
        | ct => exact fun σ' F' H'' O' st5 => ⟨rfl, hlt, F', ρ5, O', st5.sx, f2.tr (g3.ff.tr st5.ff), r, ρ', e6, en.later (st4.tr st5)⟩
        | bk =>
          cases e6
          exact fun σ' F' H'' O' st5 => en σ' F' H'' O' (st4.tr st5)
        | rt d =>
          cases e6
          exact (en.later st4)
  · have ei : i = ds.length := by omega
    subst ei
    rw [List.drop_length] at r2
    obtain ⟨r, ρ', hm, en⟩ := r2
    cases hm
    exact .inl ⟨gJ.stop _ H2 (f2.tr s2.fh) (Nat.le_refl _), en σ2 F2 H2 O2 (.rfl s2)⟩
theorem s_whl {c' : E} {body : List S} {D : Ends} {σ : Sg} {H : Hp} (h : tS X cls Xw (denS C (.whl c' body)) D σ H) : tWhile (tB (tF X cls (wE Xw) (fzM (den C c')))) (tS X cls Xw (denSs C body)) D σ H := by
  let W : Nat → Sg → Hp → Prop := fun m σ2 H2 => tS X cls Xw (whlM (fzM (den C c')) (denSs C body) m) D σ2 H2
  refine ⟨W, ⟨C.loops, h⟩, ?_⟩
  rintro m σ2 H2 ⟨B, F, ρ, O, s, h1⟩
  cases m with
  | zero => obtain ⟨r, ρ', hm, en⟩ := h1; cases hm
  | succ m =>
    have h2 : RunS (zd X cls) B Xw (M.bnd (fzM (den C c')) fun d => match d with
      | .bl true => M.bnd (denSs C body) fun f => match f with
        | .nx | .ct => whlM (fzM (den C c')) (denSs C body) m
        | .bk => M.ret .nx
        | .rt d => M.ret (.rt d)
      | .bl false => M.ret .nx
      | _ => M.stuck) σ2 F H2 ρ O D := h1
    refine ⟨B, F, ρ, O, s, h2.expr (P := pD (zd X cls)) fun d v F1 H1 ρ1 O1 st rv h3 => ?_⟩
    cases d with
    | bl k =>
      cases rv
      refine ⟨k, rfl, ?_⟩
      cases k with
      | false =>
        obtain ⟨r, ρ', hm, en⟩ := h3
        cases hm
        exact en σ2 F1 H1 O1 (.rfl st.sx)
      | true =>
        refine ⟨W m, fun σ' H' w => ⟨m, Nat.lt_succ_self m, w⟩, ?_⟩
        obtain ⟨r, ρ', hm, en⟩ := h3
        rcases bnd_inv hm with ⟨x, e5, rfl⟩ | ⟨f, ρ5, e5, e6⟩
        · exact ⟨B, F1, ρ1, O1, st.sx, .ex x, ρ', e5, fun cl dx σ' F' H'' O' st5 xr => en cl dx σ' F' H'' O' st5 xr⟩
        · refine ⟨B, F1, ρ1, O1, st.sx, .ok f, ρ5, e5, ?_⟩
          cases f with
          | nx => exact fun σ' F' H'' O' st5 => ⟨B, F', ρ5, O', st5.sx, r, ρ', e6, en.later st5⟩
          | ct => exact fun σ' F' H'' O' st5 => ⟨B, F', ρ5, O', st5.sx, r, ρ', e6, en.later st5⟩
          | bk => cases e6; exact fun σ' F' H'' O' st5 => en σ' F' H'' O' st5
          | rt d => cases e6; exact en
    | _ => obtain ⟨r, ρ', hm, en⟩ := h3; cases hm
/-! ### a slot's own object is changed -/
theorem chg_inv {i : Nat} {f : Ob → Option Ob} {ρ ρ' : Env} {r : R Unit} (h : chg i f ρ = some (r, ρ')) : ∃ o o' m, ρ[i]? = some (.own o m) ∧ f o = some o' ∧ ρ' = ρ.set i (.own o' m) := by
  unfold chg at h
  cases q : ρ[i]? with
  | none => rw [q] at h; cases h
  | some sl =>
    rw [q] at h
    cases sl with
    | own o m =>
      simp only at h
      cases e : f o with
      | none => rw [e] at h; cases h
      | some o' => rw [e] at h; cases h; exact ⟨o, o', m, rfl, e, rfl⟩
    | _ => cases h
theorem holds_inv {i : Nat} {k : Ob → Bool} {ρ ρ' : Env} {r : R Unit} (h : holds i k ρ = some (r, ρ')) : ρ' = ρ ∧ r = .ok () ∧ ∃ o m, ρ[i]? = some (.own o m) ∧ k o = true := by
  unfold holds at h
  cases q : ρ[i]? with
  | none => rw [q] at h; cases h
  | some sl =>
    rw [q] at h
    cases sl with
    | own o m =>
      simp only at h
      split at h
      · rename_i z; cases h; exact ⟨rfl, rfl, o, m, rfl, z⟩
      · cases h
    | _ => cases h
/-- one object changed in its place -/
theorem Sx.upd1 {Z : Wd} {B : Base} {F H : Hp} {σ : Sg} {ρ : Env} {O : List Addr} {i : Nat} {o o' : Ob} {m : Bool} {p : Addr} {fp : List Addr} {u : HO} (s : Sx Z B F H σ ρ O) (hi : ρ[i]? = some (.own o m)) (hσ : σ[i]? = some (some (L2.V.ref p))) (w : Own Z F H p fp o) (new : OwnR Z F (upd H p u) p fp o') : StpS Z B σ F H O σ F (upd H p u) (ρ.set i (.own o' m)) O := by
  have hp := w.r.mem
  refine .of (s.chg hi hσ w.r Sub.rfl (fun a x e => ?_) (fun b x n e => ?_) (fun b h e => absurd e h) ⟨new, w.nf, w.nd⟩)
  · rw [upd_ne fun z => by subst z; rw [w.nf a hp] at e; cases e]
    exact s.fh a x e
  · rw [upd_ne fun z => n (by rw [z]; exact hp)]
    exact e
abbrev tMs (X : Cx) (T : String) (r : VV → List VV → Hp → VK → Prop) (i : Nat) (te : TE) : TS := tDrop (tBM X.K T r (tVar i) (tCons te tNil))
theorem s_app {i : Nat} {e' : E} {D : Ends} {σ : Sg} {H : Hp} (h : tS X cls Xw (denS C (.app i e')) D σ H) : tMs X "list" rAppend i (tF X cls (wE Xw) (fzM (den C e'))) D σ H := by
  obtain ⟨B, F, ρ, O, s, r, ρ', hm, en⟩ := (show tS X cls Xw (M.bnd (holds i Ob.isL) fun _ => M.bnd (fzM (den C e')) fun d => nxt (chg i (appO d))) D σ H from h)
  rcases bnd_inv hm with ⟨x, e0, rfl⟩ | ⟨a, ρ1, e1, e2⟩
  · exact absurd e0 (nx_holds _ _ |>.nx _ _ _)
  · obtain ⟨rfl, _, o, m, hi, hk⟩ := holds_inv e1
    obtain ⟨p, fp, hσ, w, _⟩ := s.sl.own_at hi
    refine ⟨_, hσ, ?_, B, F, ρ1, O, s, RunS.expr (P := pD (zd X cls)) ⟨r, ρ', e2, en⟩ fun d v F1 H1 ρ2 O1 st rv h3 => ?_⟩
    · cases o with
      | lst ds =>
        obtain ⟨_, vs, e, _⟩ := w.r
        exact .inl ⟨rfl, vs, SqL.of e⟩
      | _ => cases hk
    · obtain ⟨ρ3, e3, en3⟩ := nxt_inv h3
      obtain ⟨o1, o2, m1, hi1, hf, rfl⟩ := chg_inv e3
      obtain ⟨p1, fp1, hσ1, w1, _⟩ := st.sx.sl.own_at hi1
      rw [hσ1] at hσ
      cases hσ
      cases o1 with
      | lst ds =>
        have hf' : (if ds.length < lim then some (Ob.lst (ds ++ [d])) else none) = some o2 := hf
        by_cases hl : ds.length < lim
        · rw [if_pos hl] at hf'
          cases hf'
          obtain ⟨e4, vs, e5, l⟩ := w1.r
          refine ⟨_, vs, v, rfl, rfl, e5, by rw [l.length]; exact hl, ?_⟩
          exact en3 σ F1 _ O1 (st.sx.upd1 hi1 hσ1 w1 ⟨e4, vs ++ [v], upd_same, l.app (.cons rv .nil)⟩)
        · rw [if_neg hl] at hf'; cases hf'
      | _ => cases hf
theorem s_ext {i : Nat} {e' : E} {D : Ends} {σ : Sg} {H : Hp} (h : tS X cls Xw (denS C (.ext i e')) D σ H) : tMs X "list" rExtend i (tF X cls (wE Xw) (fzM (den C e'))) D σ H := by
  obtain ⟨B, F, ρ, O, s, r, ρ', hm, en⟩ := (show tS X cls Xw (M.bnd (holds i Ob.isL) fun _ => M.bnd (fzM (den C e')) fun d => nxt (chg i (extO d))) D σ H from h)
  rcases bnd_inv hm with ⟨x, e0, rfl⟩ | ⟨a, ρ1, e1, e2⟩
  · exact absurd e0 (nx_holds _ _ |>.nx _ _ _)
  · obtain ⟨rfl, _, o, m, hi, hk⟩ := holds_inv e1
    obtain ⟨p, fp, hσ, w, _⟩ := s.sl.own_at hi
    refine ⟨_, hσ, ?_, B, F, ρ1, O, s, RunS.expr (P := pD (zd X cls)) ⟨r, ρ', e2, en⟩ fun d v F1 H1 ρ2 O1 st rv h3 => ?_⟩
    · cases o with
      | lst ds =>
        obtain ⟨_, vs, e, _⟩ := w.r
        exact .inl ⟨rfl, vs, SqL.of e⟩
      | _ => cases hk
    · obtain ⟨ρ3, e3, en3⟩ := nxt_inv h3
      obtain ⟨o1, o2, m1, hi1, hf, rfl⟩ := chg_inv e3
      obtain ⟨p1, fp1, hσ1, w1, _⟩ := st.sx.sl.own_at hi1
      rw [hσ1] at hσ
      cases hσ
      cases o1 with
      | lst ds =>
        cases d with
        | lst ys =>
          have hf' : (if ds.length + ys.length ≤ lim then some (Ob.lst (ds ++ ys)) else none) = some o2 := hf
          by_cases hl : ds.length + ys.length ≤ lim
          · rw [if_pos hl] at hf'
            cases hf'
            obtain ⟨e4, vs, e5, l⟩ := w1.r
            cases rv with
            | lst q l2 =>
              refine ⟨_, _, vs, _, rfl, rfl, e5, st.sx.fh _ _ q, by rw [l.length, l2.length]; exact hl, ?_⟩
              exact en3 σ F1 _ O1 (st.sx.upd1 hi1 hσ1 w1 ⟨e4, _, upd_same, l.app l2⟩)
          · rw [if_neg hl] at hf'; cases hf'
        | _ => cases hf
      | _ => cases hf
/-! ### o.f = e -/
theorem putFld_rel {Z : Wd} {F : Hp} {f : Str} {v : VV} {d : D} (r : Rp Z F v d) : ∀ {fs : List Str} {vs : List VV} {ds : List D}, fs.length = vs.length → RpL Z F vs ds → ∃ vs', putF f v (fs.zip vs) = (putFld f d fs ds).1.zip vs' ∧ (putFld f d fs ds).1.length = vs'.length ∧ RpL Z F vs' (putFld f d fs ds).2
  | [], vs, ds, h, l => by
    cases vs with
    | cons _ _ => cases h
    | nil =>
      cases l
      exact ⟨[v], rfl, rfl, .cons r .nil⟩
  | g :: fs, vs, ds, h, l => by
    cases l with
    | nil => cases h
    | @cons w vs e ds rw' l =>
      by_cases c : f = g
      · subst c
        refine ⟨v :: vs, ?_, ?_, ?_⟩
        · show (if f = f then (f, v) :: fs.zip vs else _) = _
          rw [if_pos rfl]
          show _ = (if f = f then (f :: fs, d :: ds) else _).1.zip (v :: vs)
          rw [if_pos rfl]
          rfl
        · show (if f = f then (f :: fs, d :: ds) else _).1.length = _
          rw [if_pos rfl]
          simpa using h
        · show RpL Z F _ (if f = f then (f :: fs, d :: ds) else _).2
          rw [if_pos rfl]
          exact .cons r l
      · obtain ⟨vs', h1, h2, h3⟩ := putFld_rel (f := f) r (show fs.length = vs.length by simpa using h) l
        refine ⟨w :: vs', ?_, ?_, ?_⟩
        · show (if g = f then (g, v) :: fs.zip vs else (g, w) :: putF f v (fs.zip vs)) = _
          rw [if_neg fun z => c z.symm]
          show _ = (if f = g then (g :: fs, d :: ds) else (g :: (putFld f d fs ds).1, e :: (putFld f d fs ds).2)).1.zip (w :: vs')
          rw [if_neg c, h1]
          rfl
        · show (if f = g then (g :: fs, d :: ds) else (g :: (putFld f d fs ds).1, e :: (putFld f d fs ds).2)).1.length = _
          rw [if_neg c]
          simp [h2]
        · show RpL Z F _ (if f = g then (g :: fs, d :: ds) else (g :: (putFld f d fs ds).1, e :: (putFld f d fs ds).2)).2
          rw [if_neg c]
          exact .cons rw' h3
theorem s_setf {i : Nat} {f : Str} {e' : E} {D : Ends} {σ : Sg} {H : Hp} (hf : ∀ c, C.flds c f = true → Cls X.K (cls c) ∧ NoAttr X.K (cls c) f) (h : tS X cls Xw (denS C (.setf i f e')) D σ H) : sFld X.K (tVar i) (tF X cls (wE Xw) (fzM (den C e'))) f D σ H := by
  obtain ⟨B, F, ρ, O, s, h1⟩ := (show tS X cls Xw (M.bnd (fzM (den C e')) fun d => nxt (chg i (setfO C.flds f d))) D σ H from h)
  refine ⟨B, F, ρ, O, s, h1.expr (P := pD (zd X cls)) fun d v F1 H1 ρ1 O1 st rv h3 => ?_⟩
  obtain ⟨ρ3, e3, en3⟩ := nxt_inv h3
  obtain ⟨o1, o2, m1, hi1, hff, rfl⟩ := chg_inv e3
  obtain ⟨p1, fp1, hσ1, w1, _⟩ := st.sx.sl.own_at hi1
  refine ⟨_, hσ1, ?_⟩
  cases o1 with
  | ins c fs ds =>
    have hf' : (if C.flds c f = true ∧ fs.length < 900 then some (Ob.ins c (putFld f d fs ds).1 (putFld f d fs ds).2) else none) = some o2 := hff
    by_cases hl : C.flds c f = true ∧ fs.length < 900
    · rw [if_pos hl] at hf'
      cases hf'
      obtain ⟨dx, vs, e4, e5, e6, e7, l⟩ := w1.r
      obtain ⟨vs', h1, h2, h3⟩ := putFld_rel (f := f) rv e7 l
      refine ⟨p1, _, dx, _, rfl, e5, (hf c hl.1).1, (hf c hl.1).2, ?_, ?_⟩
      · rw [List.length_zip, ← e7, Nat.min_self]
        omega
      · refine en3 σ F1 _ O1 (st.sx.upd1 hi1 hσ1 w1 ⟨dx, vs', e4, by rw [upd_same, h1], ?_, h2, h3⟩)
        have hne : dx ≠ p1 := by
          have := w1.nd
          rw [e4] at this
          simp at this
          exact fun z => this z.symm
        rw [upd_ne hne]
        exact e6
    · rw [if_neg hl] at hf'; cases hf'
  | _ => cases hff
end
end Py
set_option Elab.async false
set_option linter.all false
set_option maxRecDepth 100000
set_option maxHeartbeats 4000000
/-! PyLg: raise, isinstance of what was caught. -/
namespace Py
open PySem PySem.Spec L2 PySem.SeqAt PyProof.Rows
variable {Xw : XK}
abbrev bmVE : List Value := [.type "ValueError", .type "Exception", .type "BaseException", .type "object"]
/-- an own class of exceptions over ValueError, without an own __init__ -/
structure XcOk (K : PySem.W.Frag) (mg : Str → Option Value) (x : Str) (C : Addr) : Prop where
  gC : mg x = some (.ref C)
  ex : PySem.W.excIn K C bmVE "ValueError.__new__" = true
  kC : PySem.W.keepIn K (.ref C) = true
  r1 : PySem.W.subIn K (.ref C) (.type "BaseException") = some true
  r2 : PySem.W.typeIn K (.ref C) = some (.type "type")
/-! ### isinstance of an exception that may have a dict -/
section
open PySem.W PySem.Calls
variable {prog : Program} {w : World} {A : Around} {E : Value → Shared → Prop} {s : Shared} {K : Frag} {x D : Addr} {ox : Obj} {od : Option Obj}
theorem find_data {C : Addr} {name : Str} {a g : Value} (hc : (clsIn K C).isSome = true) (ha : findIn K (.ref C) name = some (some a)) (hg : specialIn K a "__get__" = some (some g)) (ht : takesIn K a = some true) : findObj K C od name = some (.bind g a) := by
  obtain ⟨cd, hc⟩ := Option.isSome_iff_exists.mp hc
  unfold findObj
  rw [hc, Option.bind_some, ha, Option.bind_some]
  simp [hg, ht]
/-- type(e), asked as e.__class__ -/
theorem cls_asked (C : ExcC K D) (X : K.In s.heap) (I : InstAt s.heap x ox D od) {Q : Option Value → Shared → Prop} (h : Q (some (.ref D)) { s with toks := s.toks + 1 }) : wpAny (model prog w) A (getAttr? (.ref x) "__class__") Q E s := by
  have hf : findObj K D od "__class__" = some (.bind (.builtin "getset_descriptor.__get__") (.builtin "object.__class__")) := find_data (by obtain ⟨cd, hc, _⟩ := any_some C.hd; rw [hc]; rfl) C.ha C.hn C.ht
  obtain ⟨hp, g, d, t, os⟩ := s
  have L0 := I.type (M := model prog w)
  have L1 := looks_findIn (M := model prog w) X C.hg
  have L2 := looks_findIn (M := model prog w) X C.hk
  have L3 := looks_find (M := model prog w) X I hf
  have sub : Looks (model prog w) hp (isInstance (.ref x) (.type "BaseException")) true := L0.andThen (looks_subIn X C.hs)
  have hx2 : (Value.builtin "BaseException.__getattribute__" == Value.builtin "object.__getattribute__") = false := by decide +kernel
  have hx1 : (onTheHeap (Value.ref D) && Value.builtin "BaseException.__getattribute__" == Value.builtin "object.__getattribute__") = false := by rw [hx2]; rfl
  unfold getAttr? getAttrBy? getAttrBy
  refine wpAny_bind (wpAny_mkText (wpAny_bind (wpAny_attempt (wpAny_holding (wpAny_bind (L0.at (wpAny_bind (L1.at ?_))))))))
  show wpAny _ _ (if (onTheHeap (Value.ref D) && Value.builtin "BaseException.__getattribute__" == Value.builtin "object.__getattribute__") = true then _ else _) _ _ _
  rw [hx1, if_neg Bool.false_ne_true]
  unfold getAttrByItsOwn hookBefore
  refine wpAny_bind ?_
  rw [if_pos (show onTheHeap (Value.ref D) = true from rfl)]
  refine L2.at (wpAny_bind (wpAny_attempt (wpAny_holding ?_)))
  unfold callGetattribute
  rw [show (false && onTheHeap (Value.builtin "BaseException.__getattribute__")) = false from rfl, if_neg Bool.false_ne_true]
  unfold boundAndCalled
  rw [PySem.F.excAttr_ValueError.ga.bind (.ref x)]
  refine wpAny_bind (wpAny_pure ?_)
  show wpAny _ _ (call (.builtin "BaseException.__getattribute__") [.ref x, .str "__class__" t]) _ _ _
  refine wpAny_call (codeAny_call_builtin PySem.F.excAttr_ValueError.ga.plain PySem.F.entry_bexc_ga ?_)
  refine @check_slot (model prog w) _ _ ⟨hp, g, d, t + 1, os⟩ "BaseException.__getattribute__" "BaseException" "__getattribute__" (.ref x) [.str "__class__" t] [] _ (by decide +kernel) (by decide +kernel) sub (PySem.F.args_bexc_ga (.ref x) (.str "__class__" t)) ?_
  unfold Builtin.«object.__getattribute__»
  refine wpAny_bind (wpAny_of_eq (a := ((Value.ref x : Value), [Value.str "__class__" t])) (by first | rfl | (simp only [slotArgs]; rfl)) ?_)
  refine wpAny_bind (wpAny_pure (wpAny_bind (L0.at (wpAny_bind (L3.at ?_)))))
  show wpAny _ _ (holding [Value.builtin "object.__class__"] (call (.builtin "getset_descriptor.__get__") [.builtin "object.__class__", .ref x, .ref D]) >>= ret) _ _ _
  refine wpAny_bind (wpAny_holding (wpAny_call (class_get (s := ⟨hp, g, d, t + 1, os⟩) (ox := ox) (od := od) X I C.hm ?_)))
  refine wpAny_pure ?_
  show wpAny _ _ (handedOut (.ref D)) _ _ _
  rw [handedOut_of (v := .ref D) rfl]
  first
    | exact wpAny_pure (wpAny_pure h)
    | exact wpAny_pure h
    | exact wpAny_pure (wpAny_bind (wpAny_pure (wpAny_pure h)))
theorem kitX_exc (C : ExcC K D) : KitX K (.ref x) (.ref D) (fun h => InstAt h x ox D od) where
  ty := fun _ _ _ I => I.type
  it := fun _ _ X _ => by
    obtain ⟨cdD, hcD, _⟩ := any_some C.hd
    unfold clsIn at hcD
    split at hcD
    · rename_i c' d' cd' sl' ho
      intro A' Q' E' s' k q
      unfold isType loadHead
      exact wpAny_bind (wpAny_loadPart (k _ _ (X _ _ ho)) (wpAny_pure q))
    · cases hcD
  ne := fun h tp dd its n sl X htp => by
    obtain ⟨cdD, hcD, _⟩ := any_some C.hd
    refine Bool.eq_false_iff.mpr fun q => ?_
    have e : D = tp := Value.ref.inj (beq_iff_eq.mp q)
    subst e
    unfold clsIn at hcD
    split at hcD
    · rename_i c' d' cd' sl' ho
      have z := (X _ _ ho).symm.trans htp
      cases z
    · cases hcD
  ca := fun X I k => cls_asked C X I k
end
/-- a class that isinstance may be asked -/
def RelC (v : VV) (cv : Value) : Prop := ∀ u, RelV v u → u = cv
/-- H tells an exception of class D at a -/
def ExAt (H : Hp) (a D : Addr) : Prop := ∃ dd : Option Addr, H a = some (ExD D dd a) ∧ (dd = none ∨ ∃ d fs, dd = some d ∧ H d = some (.xd fs))
section
variable {X : Cx} {cls : Nm} {Wx : WX} {C : Cfg}
theorem cr_isx : CallR X (.builtin "isinstance") (fun xs H Q => ∃ a D c cv b, xs = [.ref a, c] ∧ ExAt H a D ∧ ExcC X.K D ∧ RelC c cv ∧ PySem.W.kitOne X.K (.ref D) cv = some b ∧ Q (.bl b) H) := by
  intro pins s σ H xs us Q I r h
  obtain ⟨a, D, c, cv, b, rfl, ⟨dd, ha, hdd⟩, E, hcv, e, q⟩ := h
  cases r with
  | cons rx rr =>
    cases rr with
    | cons rt rr =>
      cases rr
      cases rx
      have ec := hcv _ rt
      subst ec
      obtain ⟨⟨oe, vs, hget, hz, hv⟩, _, _⟩ := I.hok a _ ha
      obtain ⟨od, J⟩ : ∃ od, PySem.W.InstAt s.heap a oe D od := by
        rcases hdd with rfl | ⟨d, fs, rfl, hd⟩
        · exact ⟨none, hget, hz.1, by unfold PySem.W.notCls; rw [hv] <;> rfl, by rw [hz.2]; trivial⟩
        · have hx : ObjOk X.prog X.w H s.heap d (.xd fs) := I.hok d _ hd
          obtain ⟨mA, hns, hr⟩ := hx
          obtain ⟨od, ho, hl⟩ := lookIn_ns hns
          exact ⟨some od, hget, hz.1, by unfold PySem.W.notCls; rw [hv] <;> rfl, by rw [hz.2]; exact ho⟩
      exact PySem.W.kia_one (kitX_exc E) I.kIn J e (fun z => nomatch z) fun tk => ⟨.bl b, H, I.kept (t' := tk) fun _ _ z => z, rfl, q⟩
theorem Sh.exAt {Z : Wd} {F H : Hp} {v : VV} {c : Nat} {fs : List Str} {ds : List D} (h : Sh Z F H v (.exc c fs ds)) (s : Sub F H) : ∃ a, v = .ref a ∧ ExAt H a (Z.cls c) := by
  obtain ⟨a, dd, rfl, ha, hk⟩ := h.excD s
  refine ⟨a, rfl, dd, ha, ?_⟩
  rcases hk with ⟨rfl, _⟩ | ⟨d, vs, rfl, hd, _⟩
  · exact .inl rfl
  · exact .inr ⟨d, _, rfl, hd⟩
theorem g_isc {y : Str} {p1 p2 p : Pos} {c : Nat} {e : Ex} {e' : E} (gi : Gl X "isinstance") (mi : X.mg "isinstance" = none) (oky : okN y = true) (gy : Gl X y) (my : X.mg y = some (.ref (cls c))) (hs : isStar e = false)
    (hx : ∀ k b, C.xsub k c = some b → ExcC X.K (cls k) ∧ PySem.W.kitOne X.K (.ref (cls k)) (.ref (cls c)) = some b) (g : Good X cls Wx C e e') :
    Good X cls Wx C (.Call (.Name "isinstance" p1) [e, .Name y p2] [] p) (.isc e' c) := by
  obtain ⟨o1, o2, o3⟩ := okN_of oky
  have pe : PE X (.Call (.Name "isinstance" p1) [e, .Name y p2] [] p) (tE X cls Wx (den C (.isc e' c))) := by
    have pn : PE X (.Name y p2) (tC (.ref (cls c))) := pe_glob gy my rfl o2
    refine (pe_callB cr_isx gi mi boot_isinstance (pa_cons g.op (pa_cons pn pa_nil rfl) (star_cons hs)) (by decide) (by decide) (star_cons hs) (by rfl)).mono fun σ H Q h => ?_
    have h' : tE X cls Wx (M.bnd (opd e' (den C e')) fun x => fin1 e' x fun x => match x with
      | .exc k _ _ => blM (C.xsub k c)
      | _ => M.stuck) σ H Q := by
      have e0 : den C (.isc e' c) = (M.bnd (opd e' (den C e')) fun x => fin1 e' x fun x => match x with
        | .exc k _ _ => blM (C.xsub k c)
        | _ => M.stuck) := by simp only [den] <;> rfl
      rw [← e0]
      exact h
    obtain ⟨B, F, ρ, O, s, h1⟩ := h'
    refine ⟨B, F, ρ, O, s, h1.seq (early_W _) fun x v F1 H1 ρ1 O1 _ st p1 h2 => ?_⟩
    obtain ⟨x', e1, h3⟩ := h2.fin1
    cases x' with
    | exc k fs ds =>
      obtain ⟨w, e2, q⟩ := Run.blM st.sx h3
      obtain ⟨a, rfl, ha⟩ := (p1.sh st.sx Sub.rfl e1).exAt st.sx.fh
      exact ⟨a, _, _, _, w, rfl, ha, (hx k w e2).1, fun u hu => hu, (hx k w e2).2, q⟩
    | _ => exact h3.stuck.elim
  exact ⟨pe, pt_of pe (by intro _; rfl), fun i h => by cases h⟩
theorem boot_VE : bootBuiltins ("ValueError" : Str) = some (.type "ValueError") := by first | rfl | exact PyProof.Rows.Boot.«ValueError»
theorem g_isv {p1 p2 p : Pos} {e : Ex} {e' : E} (gi : Gl X "isinstance") (mi : X.mg "isinstance" = none) (gy : Gl X "ValueError") (my : X.mg "ValueError" = none) (hs : isStar e = false)
    (hx : ∀ k b, C.xval k = some b → ExcC X.K (cls k) ∧ PySem.W.kitOne X.K (.ref (cls k)) (.type "ValueError") = some b) (g : Good X cls Wx C e e') :
    Good X cls Wx C (.Call (.Name "isinstance" p1) [e, .Name "ValueError" p2] [] p) (.isv e') := by
  have pe : PE X (.Call (.Name "isinstance" p1) [e, .Name "ValueError" p2] [] p) (tE X cls Wx (den C (.isv e'))) := by
    have pn : PE X (.Name "ValueError" p2) (tC (.ty "ValueError")) := pe_bltn gy my boot_VE rfl
    refine (pe_callB cr_isx gi mi boot_isinstance (pa_cons g.op (pa_cons pn pa_nil rfl) (star_cons hs)) (by decide) (by decide) (star_cons hs) (by rfl)).mono fun σ H Q h => ?_
    have h' : tE X cls Wx (M.bnd (opd e' (den C e')) fun x => fin1 e' x fun x => match x with
      | .exc k _ _ => blM (C.xval k)
      | _ => M.stuck) σ H Q := by
      have e0 : den C (.isv e') = (M.bnd (opd e' (den C e')) fun x => fin1 e' x fun x => match x with
        | .exc k _ _ => blM (C.xval k)
        | _ => M.stuck) := by simp only [den] <;> rfl
      rw [← e0]
      exact h
    obtain ⟨B, F, ρ, O, s, h1⟩ := h'
    refine ⟨B, F, ρ, O, s, h1.seq (early_W _) fun x v F1 H1 ρ1 O1 _ st p1 h2 => ?_⟩
    obtain ⟨x', e1, h3⟩ := h2.fin1
    cases x' with
    | exc k fs ds =>
      obtain ⟨w, e2, q⟩ := Run.blM st.sx h3
      obtain ⟨a, rfl, ha⟩ := (p1.sh st.sx Sub.rfl e1).exAt st.sx.fh
      exact ⟨a, _, _, _, w, rfl, ha, (hx k w e2).1, fun u hu => hu, (hx k w e2).2, q⟩
    | _ => exact h3.stuck.elim
  exact ⟨pe, pt_of pe (by intro _; rfl), fun i h => by cases h⟩
end
end Py
set_option Elab.async false
set_option linter.all false
set_option maxRecDepth 100000
set_option maxHeartbeats 4000000
/-! PyLh: exceptions made with their fields, as values and to be raised. -/
namespace Py
open PySem PySem.Spec L2 PySem.SeqAt PyProof.Rows
variable {Xw : XK}
theorem relO_zip {y : Str} : ∀ {fs : List Str} {vs : List VV} {us : List Value}, Vals vs us → RelO ((fs.zip vs).lookup y) ((fs.zip us).lookup y)
  | [], _, _, _ => True.intro
  | f :: fs, [], _, .nil => True.intro
  | f :: fs, v :: vs, u :: us, .cons r l => by
    rw [List.zip_cons_cons, List.zip_cons_cons, List.lookup_cons, List.lookup_cons]
    by_cases e : (y == f) = true
    · rw [e]; exact r
    · rw [Bool.not_eq_true] at e
      rw [e]
      exact relO_zip l
theorem xd_ok {P : Program} {w : World} {H : Hp} {h : Heap} {dx : Addr} {fs : List (Str × VV)} {mA : Str → Option Value} (hn : h.Ns1 dx mA) (r : ∀ f, RelO (fs.lookup f) (mA f)) : ObjOk P w H h dx (.xd fs) := ⟨mA, hn, r⟩
section
variable {fx ex : List Addr} {H : Hp} {h h' : Heap} {a b : Addr} {o u : HO}
/-- two new objects -/
theorem Un.two (k : ∀ b u, h.get? b = some u → h'.get? b = some u) (ha : h.get? a = none) (hb : h.get? b = none) (na : H a = none) (nb : H b = none) : Un fx ex H (upd (upd H b u) a o) h h' where
  keep := fun c v q _ _ _ => k c v q
  slot := fun c v q _ _ _ => ⟨v.slots, k c v q⟩
  free := fun c v q n _ => by rw [upd_ne (fun z => by rw [z, ha] at q; cases q), upd_ne (fun z => by rw [z, hb] at q; cases q)]; exact n
  there := fun c v q _ => ⟨v, k c v q⟩
  tups := fun c xs q => by rw [upd_ne (ne_of_none q na), upd_ne (ne_of_none q nb)]; exact q
  frzs := fun c v xs q => by rw [upd_ne (ne_of_none q na), upd_ne (ne_of_none q nb)]; exact q
  tbls := fun c ps q => ⟨#[], by rw [upd_ne (ne_of_none q na), upd_ne (ne_of_none q nb), q]; simp⟩
theorem hok_two {P : Program} {w : World} (x : HOk P w H h) (k : ∀ b u, h.get? b = some u → h'.get? b = some u) (na : H a = none) (nb : H b = none) (oa : ObjOk P w (upd (upd H b u) a o) h' a o) (ob : ObjOk P w (upd (upd H b u) a o) h' b u) : HOk P w (upd (upd H b u) a o) h' := fun c v e => by
  by_cases hc : c = a
  · subst hc
    rw [upd_same] at e
    cases e
    exact oa
  · rw [upd_ne hc] at e
    by_cases hd : c = b
    · subst hd
      rw [upd_same] at e
      cases e
      exact ob
    · rw [upd_ne hd] at e
      exact (x c v e).stay (fun c v _ q => k c v q) (fun c q => by rw [upd_ne (ne_of_none q na), upd_ne (ne_of_none q nb)]; exact q) fun c xs q => by rw [upd_ne (ne_of_none q na), upd_ne (ne_of_none q nb)]; exact q
end
section
variable {X : Cx} {pins : List (Addr × Obj)} {σ : Sg} {H : Hp} {s : Shared} {C : Addr} {fs : List Str} {vs : List VV} {us : List Value}
theorem exi_call {Q : Value → Shared → Prop} {E : Value → Shared → Prop} (T : ExiC X.prog X.K C fs) (I : Inv X pins σ H s) (hm : X.mg "super" = none) (hr : Room 1 X.A) (r : Vals vs us) (hl : vs.length = fs.length)
    (hq : ∀ h' e dx t1 t', (∀ b o, s.heap.get? b = some o → h'.get? b = some o) → s.heap.objs.size ≤ e → h'.get? e = some { cls := .ref C, dict := some dx, data := .fields #[.ref t1, .none, .none, .none, .bool false, .none] } → (∃ mA, h'.Ns1 dx mA ∧ ∀ y, RelO ((fs.zip vs).lookup y) (mA y)) →
      s.heap.objs.size ≤ dx → dx ≠ e → Q (.ref e) { s with heap := h', toks := t' }) : wpAny (model X.prog X.w) X.A (call (.ref C) us) Q E s := by
  obtain ⟨mb, h1, h2⟩ := I.mod.blt
  obtain ⟨hp, g, d, t, os⟩ := s
  refine exi_run T I.kIn (I.mod.glob.keeps I.bk) hm ⟨mb, h1.keeps I.bk, h2⟩ (I.mod.nolimit.keeps I.bk) hr (by rw [← r.length]; exact hl) fun h' e dx t1 t' k n1 he hn n2 ne => hq h' e dx t1 t' k n1 he ?_ n2 ne
  obtain ⟨mA, hn1, hn2⟩ := hn
  exact ⟨mA, hn1, fun y => by rw [hn2]; exact relO_zip r⟩
theorem inv_two {h' : Heap} {e dx t1 : Addr} {t' : Nat} {fz : List (Str × VV)} (I : Inv X pins σ H s) (k : ∀ b o, s.heap.get? b = some o → h'.get? b = some o) (n1 : s.heap.objs.size ≤ e) (he : h'.get? e = some { cls := .ref C, dict := some dx, data := .fields #[.ref t1, .none, .none, .none, .bool false, .none] })
    (hn : ∃ mA, h'.Ns1 dx mA ∧ ∀ y, RelO (fz.lookup y) (mA y)) (n2 : s.heap.objs.size ≤ dx) : H e = none ∧ H dx = none ∧ Inv X pins σ (upd (upd H dx (.xd fz)) e (ExD C (some dx) e)) { s with heap := h', toks := t' } := by
  obtain ⟨mA, hn1, hn2⟩ := hn
  have a1 : H e = none := I.hok.fresh n1
  have a2 : H dx = none := I.hok.fresh n2
  exact ⟨a1, a2, I.un (Un.two k (Heap.get?_none_of_le n1) (Heap.get?_none_of_le n2) a1 a2) (hok_two I.hok k a1 a2 (exD_ok he ⟨rfl, rfl⟩ rfl) (xd_ok hn1 hn2))⟩
/-- .. without the exception itself -/
theorem inv_one {h' : Heap} {e dx : Addr} {t' : Nat} {fz : List (Str × VV)} (I : Inv X pins σ H s) (k : ∀ b o, s.heap.get? b = some o → h'.get? b = some o) (n1 : s.heap.objs.size ≤ e)
    (hn : ∃ mA, h'.Ns1 dx mA ∧ ∀ y, RelO (fz.lookup y) (mA y)) (n2 : s.heap.objs.size ≤ dx) (ne : dx ≠ e) : ∃ G : Heap, (∀ b o, G.get? b = some o → h'.get? b = some o) ∧ G.get? e = none ∧ upd H dx (.xd fz) e = none ∧ H dx = none ∧ Inv X pins σ (upd H dx (.xd fz)) { s with heap := G, toks := t' } := by
  obtain ⟨mA, hn1, hn2⟩ := hn
  have a1 : H e = none := I.hok.fresh n1
  have a2 : H dx = none := I.hok.fresh n2
  obtain ⟨G, g1, g2⟩ := restrict h' fun b => decide (b ≠ e)
  have gk : ∀ b, b ≠ e → G.get? b = h'.get? b := fun b hb => g1 b (decide_eq_true hb)
  have ge : G.get? e = none := g2 e (by simp)
  have k2 : ∀ b o, s.heap.get? b = some o → G.get? b = some o := fun b o z => by
    rw [gk b (fun y => by rw [y, Heap.get?_none_of_le n1] at z; cases z)]
    exact k b o z
  refine ⟨G, fun b o z => ?_, ge, by rw [upd_ne (Ne.symm ne)]; exact a1, a2, I.laidN k2 (Heap.get?_none_of_le n2) a2 (xd_ok (hn1.at fun o z => (gk dx ne).trans z) hn2)⟩
  by_cases hb : b = e
  · rw [hb, ge] at z; cases z
  · rw [← gk b hb]; exact z
end
section
variable {X : Cx} {cls : Nm} {Wx : WX} {C : Cfg} {x : Str} {e : Ex} {es : List Ex} {p p1 pos : Pos} {A : Addr} {ta : TA}
/-- X(e), no own __init__: a value -/
theorem pe_mk0 (xc : XcOk X.K X.mg x A) (hg : Gl X x) (ha : PA X (e :: es) ta) (hst : (e :: es).any isStar = false) (hdb : (x == ("__debug__" : Str)) = false) :
    PE X (.Call (.Name x p) (e :: es) [] pos) (fun σ H Q => ta σ H fun vs H1 => vs.length ≤ 1000 ∧ ∀ a, H1 a = none → Q (.ref a) (upd H1 a (ExD A none a))) := by
  rw [List.any_cons, Bool.or_eq_false_iff] at hst
  refine ⟨fun pins s σ H Q I h => ?_⟩
  refine wpAny_Call_Name_kw (ld_glob I hg xc.gC ?_ hdb)
  refine PySem.W.callWith_K (h₀ := X.base) I.ok.mod.kin xc.kC (thn (ha.run pos pins s σ H _ I h) fun us s1 ⟨vs, H1, I1, r1, hz, q1⟩ => ⟨I1.kIn, ?_⟩) (star_cons hst.1) (back_any hst.2)
  show wpAny _ _ (call (.ref A) us) _ _ _
  obtain ⟨bm, N, nm, qn, bs, hdct, sn, sub, ab, col, dd, k0, k1, k2, k3, k5, mN, hC, hN, hni, T⟩ := exc_obj I1.kIn xc.ex
  refine wpAny_call_exc_subT PySem.F.excBase_ValueError T hC hN hni (fun h' a hm => ?_) (by rw [← r1.length, sizeLine_eq]; omega)
  have hn : H1 a = none := I1.hok.gone hm.new
  obtain ⟨t, ht, _, _⟩ := hm.there
  exact ⟨.ref a, upd H1 a (ExD A none a), I1.laidN hm.keeps hm.new hn (exD_ok ht ⟨rfl, rfl⟩ rfl), rfl, q1 a hn⟩
/-- an own class of exceptions with its own __init__ -/
structure XiOk (P : Program) (K : PySem.W.Frag) (mg : Str → Option Value) (x : Str) (A : Addr) (fs : List Str) : Prop where
  gC : mg x = some (.ref A)
  ex : ExiC P K A fs
  kC : PySem.W.keepIn K (.ref A) = true
  r2 : PySem.W.typeIn K (.ref A) = some (.type "type")
  sup : mg "super" = none
/-- X(e, ..), its own __init__: a value -/
theorem pe_mkI {fs : List Str} (xc : XiOk X.prog X.K X.mg x A fs) (hr : Room 1 X.A) (hg : Gl X x) (ha : PA X (e :: es) ta) (hst : (e :: es).any isStar = false) (hdb : (x == ("__debug__" : Str)) = false) :
    PE X (.Call (.Name x p) (e :: es) [] pos) (fun σ H Q => ta σ H fun vs H1 => vs.length = fs.length ∧ ∀ a dx, H1 a = none → H1 dx = none → dx ≠ a → Q (.ref a) (upd (upd H1 dx (.xd (fs.zip vs))) a (ExD A (some dx) a))) := by
  rw [List.any_cons, Bool.or_eq_false_iff] at hst
  refine ⟨fun pins s σ H Q I h => ?_⟩
  refine wpAny_Call_Name_kw (ld_glob I hg xc.gC ?_ hdb)
  refine PySem.W.callWith_K (h₀ := X.base) I.ok.mod.kin xc.kC (thn (ha.run pos pins s σ H _ I h) fun us s1 ⟨vs, H1, I1, r1, hz, q1⟩ => ⟨I1.kIn, ?_⟩) (star_cons hst.1) (back_any hst.2)
  show wpAny _ _ (call (.ref A) us) _ _ _
  refine exi_call xc.ex I1 xc.sup hr r1 hz fun h' e' dx t1 t' k n1 he hn n2 ne => ?_
  obtain ⟨a1, a2, J⟩ := inv_two (t' := t') I1 k n1 he hn n2
  exact ⟨.ref e', _, J, rfl, q1 e' dx a1 a2 ne⟩
/-- .. to be raised -/
theorem pmk_mkI {fs : List Str} (xc : XiOk X.prog X.K X.mg x A fs) (hr : Room 1 X.A) (hg : Gl X x) (ha : PA X (e :: es) ta) (hst : (e :: es).any isStar = false) (hdb : (x == ("__debug__" : Str)) = false) :
    PMk X (.Call (.Name x p) (e :: es) [] pos) (fun σ H Q => ta σ H fun vs H1 => vs.length = fs.length ∧ ∀ dx, H1 dx = none → Q (.ref A) (some dx) (upd H1 dx (.xd (fs.zip vs)))) := by
  rw [List.any_cons, Bool.or_eq_false_iff] at hst
  intro pins s σ H Q I h
  refine wpAny_Call_Name_kw (ld_glob I hg xc.gC ?_ hdb)
  refine PySem.W.callWith_K (h₀ := X.base) I.ok.mod.kin xc.kC (thn (ha.run pos pins s σ H _ I h) fun us s1 ⟨vs, H1, I1, r1, hz, q1⟩ => ⟨I1.kIn, ?_⟩) (star_cons hst.1) (back_any hst.2)
  show wpAny _ _ (call (.ref A) us) _ _ _
  refine exi_call xc.ex I1 xc.sup hr r1 hz fun h' e' dx t1 t' k n1 he hn n2 ne => ?_
  obtain ⟨G, g1, g2, g3, g4, J⟩ := inv_one (t' := t') I1 k n1 hn n2 ne
  exact ⟨e', _, _, { s1 with heap := G, toks := t' }, _, .ref A, some dx, rfl, J, g1, g2, he, ⟨rfl, rfl⟩, rfl, rfl, g3, rfl, I1.bare, raises_own xc.ex.oex.exC xc.r2, q1 dx g4⟩
theorem mkxX_some {c : Nat} {ds : List D} {fs : List Str} (h : C.xfl c = some fs) : mkxX C c ds = if fs = [] then (if ds.length = 1 then M.ret ⟨c, [], []⟩ else M.stuck) else if ds.length = fs.length then M.ret ⟨c, fs, ds⟩ else M.stuck := by
  unfold mkxX
  rw [h]
theorem mkxX_none {c : Nat} {ds : List D} (h : C.xfl c = none) : mkxX C c ds = M.stuck := by
  unfold mkxX
  rw [h]
/-- a class of ours: how its exceptions are made -/
structure XkOk (P : Program) (K : PySem.W.Frag) (mg : Str → Option Value) (xfl : Nat → Option (List Str)) (x : Str) (A : Addr) (c : Nat) : Prop where
  gC : mg x = some (.ref A)
  mks : ∃ fs, xfl c = some fs ∧ (fs = [] → XcOk K mg x A) ∧ (fs ≠ [] → XiOk P K mg x A fs)
/-- X(e, ..) -/
theorem g_mkx {es' : List E} {c : Nat} (okx : okN x = true) (hg : Gl X x) (hr : Room 1 X.A) (xk : XkOk X.prog X.K X.mg C.xfl x (cls c) c)
    (hs : es.any isStar = false) (g : Goods X cls Wx C es es') : Good X cls Wx C (.Call (.Name x p) es [] pos) (.mkx c es') := by
  obtain ⟨o1, o2, o3⟩ := okN_of okx
  have pe : PE X (.Call (.Name x p) es [] pos) (tE X cls Wx (den C (.mkx c es'))) := by
    have ex : ∀ σ H Q, tE X cls Wx (den C (.mkx c es')) σ H Q → tE X cls Wx (M.bnd (denEs C es') fun ds => M.bnd (mkxX C c ds) fun (x : Exn) => M.ret (.val (.exc x.c x.fs x.xs))) σ H Q := fun _ _ _ h => h
    cases es with
    | nil =>
      cases es' with
      | cons _ _ => exact g.elim
      | nil =>
        refine ⟨fun pins s σ H Q I h => ?_⟩
        obtain ⟨B, F, ρ, O, s, h1⟩ := ex σ H Q h
        obtain ⟨r, ρ', hm, en⟩ := h1
        refine False.elim ?_
        obtain ⟨fs, q, _⟩ := xk.mks
        have hm2 : (M.bnd (mkxX C c []) fun (x : Exn) => M.ret (.val (.exc x.c x.fs x.xs)) : M W) ρ = some (r, ρ') := hm
        rw [mkxX_some q] at hm2
        by_cases e : fs = []
        · rw [if_pos e, if_neg (by simp)] at hm2; cases hm2
        · rw [if_neg e, if_neg (fun z => e (List.eq_nil_of_length_eq_zero z.symm))] at hm2; cases hm2
    | cons e es =>
      obtain ⟨fs, q, hx0, hx1⟩ := xk.mks
      · by_cases e0 : fs = []
        · subst e0
          refine (pe_mk0 (hx0 rfl) hg (pa_es hs g) hs o2).mono fun σ H Q h => ?_
          obtain ⟨B, F, ρ, O, s, h1⟩ := ex σ H Q h
          refine ⟨B, F, ρ, O, s, h1.seq (early_W _) fun xs vs F1 H1 ρ1 O1 _ st p1 h2 => ?_⟩
          have h3 : Run (zd X cls) B Wx (pW (zd X cls)) (M.bnd (if xs.length = 1 then M.ret (⟨c, [], []⟩ : Exn) else M.stuck) fun (x : Exn) => M.ret (.val (.exc x.c x.fs x.xs))) σ F1 H1 ρ1 O1 Q := by
            rw [mkxX_some q, if_pos rfl] at h2
            exact h2
          by_cases hl : xs.length = 1
          · rw [if_pos hl] at h3
            have af : After (zd X cls) F1 H1 (.val (.exc c [] [])) Q := Run.after st.sx (show Run (zd X cls) B Wx (pW (zd X cls)) (M.ret (.val (.exc c [] []))) σ F1 H1 ρ1 O1 Q from h3)
            refine ⟨by rw [RpL.length p1]; omega, fun a ha => af (.ref a) _ _ [] (Gr.new st.sx.fh ha) ⟨.exc upd_same, rfl⟩ fun b hb => nomatch hb⟩
          · rw [if_neg hl] at h3
            obtain ⟨r, ρ', hm, en⟩ := h3
            cases hm
        · refine (pe_mkI (hx1 e0) hr hg (pa_es hs g) hs o2).mono fun σ H Q h => ?_
          obtain ⟨B, F, ρ, O, s, h1⟩ := ex σ H Q h
          refine ⟨B, F, ρ, O, s, h1.seq (early_W _) fun xs vs F1 H1 ρ1 O1 _ st p1 h2 => ?_⟩
          have h3 : Run (zd X cls) B Wx (pW (zd X cls)) (M.bnd (if xs.length = fs.length then M.ret (⟨c, fs, xs⟩ : Exn) else M.stuck) fun (x : Exn) => M.ret (.val (.exc x.c x.fs x.xs))) σ F1 H1 ρ1 O1 Q := by
            rw [mkxX_some q, if_neg e0] at h2
            exact h2
          by_cases hl : xs.length = fs.length
          · rw [if_pos hl] at h3
            have af : After (zd X cls) F1 H1 (.val (.exc c fs xs)) Q := Run.after st.sx (show Run (zd X cls) B Wx (pW (zd X cls)) (M.ret (.val (.exc c fs xs))) σ F1 H1 ρ1 O1 Q from h3)
            refine ⟨by rw [RpL.length p1, hl], fun a dx ha hdx ne => ?_⟩
            have g1 : Gr (zd X cls).cls.T F1 H1 (upd F1 dx (.xd (fs.zip vs))) (upd H1 dx (.xd (fs.zip vs))) := Gr.new st.sx.fh hdx
            have g2 : Gr (zd X cls).cls.T (upd F1 dx (.xd (fs.zip vs))) (upd H1 dx (.xd (fs.zip vs))) (upd (upd F1 dx (.xd (fs.zip vs))) a (ExD (cls c) (some dx) a)) (upd (upd H1 dx (.xd (fs.zip vs))) a (ExD (cls c) (some dx) a)) := Gr.new g1.fh (by rw [upd_ne (Ne.symm ne)]; exact ha)
            exact af (.ref a) _ _ [] (g1.tr g2) ⟨.exd upd_same (by rw [upd_ne ne, upd_same]) (by rw [← hl, ← RpL.length p1]) (p1.mono (g1.tr g2).ff), rfl⟩ fun b hb => nomatch hb
          · rw [if_neg hl] at h3
            obtain ⟨r, ρ', hm, en⟩ := h3
            cases hm
  exact ⟨pe, pt_of pe (by intro _; rfl), fun i h => by cases h⟩
/-- raise X(e), no own __init__ -/
theorem pmk_mk0 (xc : XcOk X.K X.mg x A) (hg : Gl X x) (ha : PA X (e :: es) ta) (hst : (e :: es).any isStar = false) (hdb : (x == ("__debug__" : Str)) = false) :
    PMk X (.Call (.Name x p) (e :: es) [] pos) (fun σ H Q => ta σ H fun vs H1 => vs.length ≤ 1000 ∧ Q (.ref A) none H1) := by
  rw [List.any_cons, Bool.or_eq_false_iff] at hst
  intro pins s σ H Q I h
  refine wpAny_Call_Name_kw (ld_glob I hg xc.gC ?_ hdb)
  refine PySem.W.callWith_K (h₀ := X.base) I.ok.mod.kin xc.kC (thn (ha.run pos pins s σ H _ I h) fun us s1 ⟨vs, H1, I1, r1, hz, q1⟩ => ⟨I1.kIn, ?_⟩) (star_cons hst.1) (back_any hst.2)
  show wpAny _ _ (call (.ref A) us) _ _ _
  obtain ⟨bm, N, nm, qn, bs, hdct, sn, sub, ab, col, dd, k0, k1, k2, k3, k5, mN, hC, hN, hni, T⟩ := exc_obj I1.kIn xc.ex
  refine wpAny_call_exc_subT PySem.F.excBase_ValueError T hC hN hni (fun h' a hm => ?_) (by rw [← r1.length, sizeLine_eq]; omega)
  exact mk_of I1 hm (raises_own xc.r1 xc.r2) q1 (I1.hok.gone hm.new)
/-- raise X(e, ..) -/
theorem ps_rsx {es' : List E} {c : Nat} {pos' : Pos} (hc : X.calm = true) (tk : Takes X (wE Xw)) (okx : okN x = true) (hg : Gl X x) (hr : Room 1 X.A) (xk : XkOk X.prog X.K X.mg C.xfl x (cls c) c) (hs : es.any isStar = false) (g : Goods X cls (wE Xw) C es es') :
    PS X (.Raise (some (.Call (.Name x p) es [] pos)) none pos') (tS X cls Xw (denS C (.rse c es'))) := by
  obtain ⟨o1, o2, o3⟩ := okN_of okx
  have ex2 : ∀ D σ H, tS X cls Xw (denS C (.rse c es')) D σ H → ∃ B F ρ O, Sx (zd X cls) B F H σ ρ O ∧ RunS (zd X cls) B Xw (M.bnd (denEs C es') fun ds => M.bnd (mkxX C c ds) fun (x : Exn) => (M.raise x : M Fl)) σ F H ρ O D := fun _ _ _ h => h
  obtain ⟨fs, q, hx0, hx1⟩ := xk.mks
  cases es with
  | nil =>
    cases es' with
    | cons _ _ => exact g.elim
    | nil =>
      refine ⟨fun pins s σ H D I h => ?_⟩
      obtain ⟨B, F, ρ, O, s, r, ρ', hm, en⟩ := ex2 D σ H h
      refine False.elim ?_
      have hm2 : (M.bnd (mkxX C c []) fun (x : Exn) => (M.raise x : M Fl)) ρ = some (r, ρ') := hm
      rw [mkxX_some q] at hm2
      by_cases e : fs = []
      · rw [if_pos e, if_neg (by simp)] at hm2; cases hm2
      · rw [if_neg e, if_neg (fun z => e (List.eq_nil_of_length_eq_zero z.symm))] at hm2; cases hm2
  | cons e es =>
    by_cases e0 : fs = []
    · subst e0
      refine (ps_raise hc tk (pmk_mk0 (hx0 rfl) hg (pa_es hs g) hs o2)).mono fun D σ H h => ?_
      obtain ⟨B, F, ρ, O, s, h1⟩ := ex2 D σ H h
      refine ⟨B, F, ρ, O, s, h1.expr fun xs vs F1 H1 ρ1 O1 st p1 h2 => ?_⟩
      obtain ⟨r, ρ', hm, en⟩ := h2
      have hm2 : (M.bnd (if xs.length = 1 then M.ret (⟨c, [], []⟩ : Exn) else M.stuck) fun (x : Exn) => (M.raise x : M Fl)) ρ1 = some (r, ρ') := by
        rw [mkxX_some q, if_pos rfl] at hm
        exact hm
      by_cases hl : xs.length = 1
      · rw [if_pos hl] at hm2
        have hm3 : some ((R.ex ⟨c, [], []⟩ : R Fl), ρ1) = some (r, ρ') := hm2
        cases hm3
        exact ⟨by rw [RpL.length p1]; omega, en (.ref (cls c)) none σ F1 H1 O1 (.rfl st.sx) ⟨rfl, .inl ⟨rfl, rfl, rfl⟩⟩⟩
      · rw [if_neg hl] at hm2
        cases hm2
    · refine (ps_raise hc tk (pmk_mkI (hx1 e0) hr hg (pa_es hs g) hs o2)).mono fun D σ H h => ?_
      obtain ⟨B, F, ρ, O, s, h1⟩ := ex2 D σ H h
      refine ⟨B, F, ρ, O, s, h1.expr fun xs vs F1 H1 ρ1 O1 st p1 h2 => ?_⟩
      obtain ⟨r, ρ', hm, en⟩ := h2
      have hm2 : (M.bnd (if xs.length = fs.length then M.ret (⟨c, fs, xs⟩ : Exn) else M.stuck) fun (x : Exn) => (M.raise x : M Fl)) ρ1 = some (r, ρ') := by
        rw [mkxX_some q, if_neg e0] at hm
        exact hm
      by_cases hl : xs.length = fs.length
      · rw [if_pos hl] at hm2
        have hm3 : some ((R.ex ⟨c, fs, xs⟩ : R Fl), ρ1) = some (r, ρ') := hm2
        cases hm3
        refine ⟨by rw [RpL.length p1, hl], fun dx hdx => ?_⟩
        have g1 : Gr (zd X cls).cls.T F1 H1 (upd F1 dx (.xd (fs.zip vs))) (upd H1 dx (.xd (fs.zip vs))) := Gr.new st.sx.fh hdx
        exact en (.ref (cls c)) (some dx) σ _ _ O1 (.of (Stp.gr st.sx g1)) ⟨rfl, .inr ⟨dx, vs, rfl, upd_same, by rw [← hl, ← RpL.length p1], p1.mono g1.ff⟩⟩
      · rw [if_neg hl] at hm2
        cases hm2
end
end Py
set_option Elab.async false
set_option linter.all false
set_option maxRecDepth 100000
set_option maxHeartbeats 4000000
/-! PyNb: len(set(xs)), xs of ints. -/
namespace Py
open PySem PySem.Spec L2 PySem.SeqAt PyProof.Rows
theorem met_first {ns : List Int} : ∀ i, i ≤ ns.length → firstMet (fun i => ns.getD i 0) i = metI (ns.take i)
  | 0, _ => rfl
  | i + 1, hi => by
    have hlt : i < ns.length := hi
    have e1 : ns.getD i 0 = ns[i] := by rw [List.getD_eq_getElem?_getD, List.getElem?_eq_getElem hlt] <;> rfl
    have e2 : ns.take (i + 1) = ns.take i ++ [ns[i]] := by rw [List.take_add_one, List.getElem?_eq_getElem hlt] <;> rfl
    rw [firstMet_succ, met_first i (Nat.le_of_lt hlt), e2]
    unfold metI step_dedup
    rw [List.foldl_append, e1]
    rfl
theorem met_le (ns : List Int) : (metI ns).length ≤ ns.length := by
  have := met_first (ns := ns) ns.length (Nat.le_refl _)
  rw [List.take_length] at this
  rw [← this]
  exact firstMet_length_le _ _
section
variable {X : Cx} {cls : Nm} {Wx : WX} {C : Cfg} {a : Ex} {ta : TE} {p p2 q pos : Pos}
def rLns (x : VV) (H1 : Hp) (Q : VK) : Prop := ∃ (l : Addr) (ns : List Int), x = .ref l ∧ H1 l = some (.lst (ns.map V.int)) ∧ ns.length ≤ 4000 ∧ Q (.int ((metI ns).length : Nat)) H1
theorem pe_lns (hg : Gl X "len") (hm : X.mg "len" = none) (hg2 : Gl X "set") (hm2 : X.mg "set" = none) (ha : PE X a ta) (hc : X.calm = true)
    (na : starEach [a] X.env = (false, eval a X.env) :: starEach [] X.env) : PE X (.Call (.Name "len" p) [.Call (.Name "set" p2) [a] [] q] [] pos) (fun σ H Q => ta σ H fun x H1 => rLns x H1 Q) := by
  refine ⟨fun pins s σ H Q I h => ?_⟩
  refine Call_ (ld_blt I hg hm boot_len ?_)
  refine callWith_builtin1 (args_cons ?_ rfl) rfl rfl
  refine Call_ (ld_blt I hg2 hm2 boot_set ?_)
  refine callWith_type1 (args_cons (thn (ha.run pins s σ H _ I h) fun v s1 ⟨x, H1, I1, r1, q1⟩ => args_nil ?_) na) na rfl
  obtain ⟨l, ns, rfl, hq, hl, q1⟩ := q1
  cases r1
  obtain ⟨its, r, pl, hz⟩ := I1.list (SqL.of hq)
  have hlen : its.toArray.size = ns.length := by rw [List.size_toArray, ← r.length, List.length_map]
  refine call_set_list (I1.ok.hd hc) pl.isList (by simpa using RZ.intsAre_vals r) (by rw [hlen]; unfold scanBound; omega) fun h' tk hS hk => ?_
  refine args_nil ?_
  rw [hlen, met_first ns.length (Nat.le_refl _), List.take_length] at hS
  obtain ⟨o, es, ep, t, ho, hex, hd, _, _, _, hf, hn⟩ := hS
  have I2 : Inv X pins σ H1 { s1 with heap := h', toks := tk } := I1.kept fun b o e => hk b o (Heap.lt_size e) e
  have hle := met_le ns
  exact call_len_set ho hex hd hf (by rw [hn] <;> omega) ⟨.int (metI ns).length, H1, I2.tok _, ⟨_, by rw [hn]⟩, q1⟩
theorem g_lns {a' : E} (hc : X.calm = true) (hg : Gl X "len") (hm : X.mg "len" = none) (hg2 : Gl X "set") (hm2 : X.mg "set" = none) (hs : isStar a = false) (ga : Good X cls Wx C a a') :
    Good X cls Wx C (.Call (.Name "len" p) [.Call (.Name "set" p2) [a] [] q] [] pos) (.lns a') := by
  have pe : PE X (.Call (.Name "len" p) [.Call (.Name "set" p2) [a] [] q] [] pos) (tE X cls Wx (den C (.lns a'))) := by
    refine (pe_lns hg hm hg2 hm2 ga.op hc (star_cons hs)).mono fun σ H Q h => ?_
    have h' : tE X cls Wx (M.bnd (opd a' (den C a')) fun x => fin1 a' x fun x => valM (lnsD x)) σ H Q := by
      have e0 : den C (.lns a') = (M.bnd (opd a' (den C a')) fun x => fin1 a' x fun x => valM (lnsD x)) := by simp only [den] <;> rfl
      rw [← e0]
      exact h
    exact s_op1 (r := rLns) (fun B F H ρ O x d Q s hx h => by
      obtain ⟨w, e1, af⟩ := h.valM s
      cases d with
      | lst ds =>
        obtain ⟨ns, e2, e3⟩ := Option.bind_eq_some_iff.mp (show (allI ds).bind (fun ns => if ns.length ≤ 4000 then some (D.int ((metI ns).length : Nat)) else none) = some w from e1)
        obtain ⟨a0, vs, rfl, ha, l⟩ := hx.lst s.fh
        have ev := ints_of l e2
        subst ev
        by_cases hz : ns.length ≤ 4000
        · rw [if_pos hz] at e3
          cases e3
          exact ⟨a0, ns, rfl, ha, hz, af.val s.fh (.int _)⟩
        · rw [if_neg hz] at e3
          cases e3
      | _ => cases e1) h'
  exact ⟨pe, pt_of pe (by intro _; rfl), fun i h => by cases h⟩
theorem setArg_some {tc : Tc} {x : Str} {es : List Ex} {a : Ex} (h : setArg tc x es = some a) : ∃ p1 p2, es = [.Call (.Name "set" p1) [a] [] p2] ∧ x = "len" ∧ ("set" : Str) = "set" ∧ tc.free "set" = true ∧ isStar a = false := by
  unfold setArg at h
  split at h
  · rename_i y p1 b p2
    by_cases c : (x == ("len" : Str) && (y == ("set" : Str) && (tc.free y && !isStar b))) = true
    · rw [if_pos c] at h
      cases h
      simp only [Bool.and_eq_true, beq_iff_eq, Bool.not_eq_true'] at c
      obtain ⟨rfl, rfl, c1, c2⟩ := c
      exact ⟨p1, p2, rfl, rfl, rfl, c1, c2⟩
    · rw [if_neg c] at h
      cases h
  · cases h
end
end Py
set_option Elab.async false
set_option linter.all false
set_option maxRecDepth 100000
set_option maxHeartbeats 4000000
/-! PyXg: x += e, of ints. -/
namespace Py
open PySem PySem.Spec L2 PySem.SeqAt PyProof.Rows
variable {Xw : XK}
section
variable {X : Cx} {cls : Nm} {C : Cfg}
def augK (i : Nat) (d : D) : M Fl := match d with
  | .int z => nxt (setV i (.val (.int z)))
  | _ => M.stuck
theorem s_aug {i : Nat} {op : BOp} {e' : E} {f : Int → Int → Int} {D : Ends} {σ : Sg} {H : Hp} (hf : ∀ x y d, binD op x y = some (.int d) → ∃ a b, x = .int a ∧ y = .int b ∧ d = f a b)
    (h : tS X cls Xw (denS C (.aug i op e')) D σ H) : tAug i (tF X cls (wE Xw) (fzM (den C e'))) (ipI f) D σ H := by
  obtain ⟨B, F, ρ, O, s, h1⟩ := (show tS X cls Xw (M.bnd (peekM i) fun x => M.bnd (fzM (den C e')) fun y => M.bnd (M.lift (binD op x y)) (augK i)) D σ H from h)
  obtain ⟨r, ρ', hm, en⟩ := h1
  rcases bnd_inv hm with ⟨x, e0, rfl⟩ | ⟨x, ρ1, e0, hk⟩
  · unfold peekM at e0
    cases hp : peekV i ρ with
    | none => rw [hp] at e0; cases e0
    | some x => rw [hp] at e0; cases e0
  · have hp : peekV i ρ = some x ∧ ρ1 = ρ := by
      unfold peekM at e0
      cases hp : peekV i ρ with
      | none => rw [hp] at e0; cases e0
      | some x => rw [hp] at e0; cases e0; exact ⟨rfl, rfl⟩
    obtain ⟨hp, rfl⟩ := hp
    have h2 : RunS (zd X cls) B Xw (M.bnd (fzM (den C e')) fun y => M.bnd (M.lift (binD op x y)) (augK i)) σ F H ρ1 O D := ⟨r, ρ', hk, en⟩
    have hv : ∃ v, σ[i]? = some (some v) ∧ ∀ a, x = .int a → v = .int a := by
      unfold peekV at hp
      cases hs : ρ1[i]? with
      | none => rw [hs] at hp; cases hp
      | some sl =>
        rw [hs] at hp
        cases sl with
        | un => cases hp
        | val d =>
          cases hp
          obtain ⟨v, e1, rp⟩ := s.sl.val_at hs
          exact ⟨v, e1, fun a e2 => by subst e2; cases rp; rfl⟩
        | own o m =>
          obtain ⟨p, fp, e1, _⟩ := s.sl.own_at hs
          refine ⟨_, e1, fun a e2 => ?_⟩
          subst e2
          have hp' : frz o = some (.int a) := hp
          cases o <;> cases hp'
    obtain ⟨v, e1, hv⟩ := hv
    refine ⟨v, e1, B, F, ρ1, O, s, h2.raw (P := pD (zd X cls)) fun y w F1 H1 ρ2 O1 r ρ' st rw' h3 en => ?_⟩
    have h3' : M.bnd (M.lift (binD op x y)) (augK i) ρ2 = some (r, ρ') := h3
    cases hb : binD op x y with
    | none =>
      rcases bnd_inv h3' with ⟨_, e3, _⟩ | ⟨_, _, e3, _⟩ <;> (unfold M.lift at e3; rw [hb] at e3; cases e3)
    | some d =>
      have h4 : augK i d ρ2 = some (r, ρ') := by
        rcases bnd_inv h3' with ⟨_, e3, _⟩ | ⟨d', ρ3, e3, e4⟩
        · unfold M.lift at e3; rw [hb] at e3; cases e3
        · unfold M.lift at e3; rw [hb] at e3; cases e3; exact e4
      cases d with
      | int z =>
        obtain ⟨a, b, rfl, rfl, rfl⟩ := hf x y z hb
        have ew : w = .int b := by cases rw'; rfl
        refine ⟨a, b, hv a rfl, ew, ?_⟩
        obtain ⟨e2, en⟩ := nxt_inv0 h4 en
        obtain ⟨_, O2, st2, _⟩ := stp_set (F2 := F1) (H2 := H1) (ρ3 := ρ2) (w := .val (.int (f a b))) (v := .int (f a b)) (fp := []) s (.of st) ⟨.int _, rfl⟩ (fun b hb => nomatch hb) (fun b hb => nomatch hb) e2
        exact en _ F1 H1 O2 st2
      | _ => cases h4
theorem add_int {x y : D} {d : Int} (h : binD .add x y = some (.int d)) : ∃ a b, x = .int a ∧ y = .int b ∧ d = a + b := by
  cases x <;> cases y <;> first
    | (cases h; exact ⟨_, _, rfl, rfl, rfl⟩)
    | (cases h; done)
    | (simp only [binD] at h; split at h <;> cases h)
theorem sub_int {x y : D} {d : Int} (h : binD .sub x y = some (.int d)) : ∃ a b, x = .int a ∧ y = .int b ∧ d = a - b := by
  cases x <;> cases y <;> first
    | (cases h; exact ⟨_, _, rfl, rfl, rfl⟩)
    | (cases h; done)
end
end Py
set_option Elab.async false
set_option linter.all false
set_option maxRecDepth 100000
set_option maxHeartbeats 4000000
/-! PyXb: dict.update, several stores at once. -/
namespace Py
open PySem PySem.Spec L2 PySem.SeqAt PyProof.Rows
variable {Xw : XK}
section
variable {X : Cx} {cls : Nm} {C : Cfg}
def rUpd : VV → List VV → Hp → VK → Prop := fun x vs H Q => ∃ d o kvs more, x = .ref d ∧ vs = [.ref o] ∧ H d = some (.dK kvs) ∧ H o = some (.dK more) ∧ d ≠ o ∧ kvs.length + more.length ≤ sizeLine ∧ Q .non (upd H d (.dK (mergeK kvs more)))
theorem mt_upd : MtR X "dict.update" rUpd := by
  intro pins s σ H x vs v us Q I rx r h
  obtain ⟨d, o, kvs, more, rfl, rfl, hd, ho, hne, hz, q⟩ := h
  cases rx
  obtain ⟨u, rfl, ru⟩ := Vals.one r
  cases ru
  obtain ⟨z1, l1, vs1, r1, d1⟩ := dk_of I.hok hd
  obtain ⟨z2, l2, vs2, r2, d2⟩ := dk_of I.hok ho
  have hz' : vs1.length + vs2.length ≤ sizeLine := by rw [← r1.length, ← r2.length]; exact hz
  refine call_meetsIn PySem.F.slot_dict_update d1.typeIs PySem.F.entry_dict_update (PySem.F.args_dict_update_2 _ _) (meets_dict_update (mixKind X.prog X.w) d o hne l2) ⟨vs1, vs2, d1, d2, hz', fun h' hd' ho' hs' => ?_⟩
  have he : ∃ q, h'.get? d = some q := let ⟨q, _, _, hq, _⟩ := hd'; ⟨q, hq⟩
  have hl : (mergeK kvs more).length ≤ sizeLine := Nat.le_trans (length_mergeK _ _) hz
  have I2 := d_write (t' := s.toks) I (by rw [hd]; exact True.intro) hs' he (dk_new hl l1 (KV.merge r2 r1) hd')
  exact ⟨.non, _, I2, rfl, q⟩
theorem put_rel {Z : Wd} {F : Hp} {q : Key} {v : VV} {d : D} (r : Rp Z F v d) : ∀ {qs : List Key} {vs : List VV} {ds : List D}, qs.length = vs.length → qs.Nodup → RpL Z F vs ds → ∃ (qs' : List Key) (vs' : List VV), putK (qs.zip vs) q v = qs'.zip vs' ∧ qs'.length = vs'.length ∧ qs'.Nodup ∧ (∀ k, k ∈ qs' ↔ k = q ∨ k ∈ qs) ∧ (put (kyK q) d (qs.map kyK) ds).1 = qs'.map kyK ∧ RpL Z F vs' (put (kyK q) d (qs.map kyK) ds).2
  | [], vs, ds, h, n, l => by
    cases vs with
    | cons _ _ => cases h
    | nil =>
      cases l
      exact ⟨[q], [v], rfl, rfl, by simp, by simp, rfl, .cons r .nil⟩
  | k :: qs, vs, ds, h, n, l => by
    cases l with
    | nil => cases h
    | @cons w vs e ds rw' l =>
      have hl : qs.length = vs.length := by simpa using h
      have hk : k ∉ qs := (List.nodup_cons.mp n).1
      by_cases c : k = q
      · subst c
        have e1 : putK ((k, w) :: qs.zip vs) k v = (k, v) :: qs.zip vs := by
          unfold putK
          rw [if_pos (by simp), List.map_cons, if_pos rfl]
          congr 1
          have : ∀ l : List (Key × VV), (∀ p ∈ l, p.1 ≠ k) → l.map (fun kv => if kv.1 = k then (kv.1, v) else kv) = l := by
            intro l
            induction l with
            | nil => intro _; rfl
            | cons p l ih =>
              intro hp
              rw [List.map_cons, if_neg (hp p List.mem_cons_self), ih fun x hx => hp x (List.mem_cons_of_mem _ hx)]
          exact this _ fun p hp => fun z => hk (by rw [← z]; exact (List.of_mem_zip (a := p.1) (b := p.2) hp).1)
        refine ⟨k :: qs, v :: vs, e1, by simpa using hl, n, fun x => by simp, ?_, ?_⟩
        · show (if kyK k = kyK k then (kyK k :: qs.map kyK, d :: ds) else _).1 = _
          rw [if_pos rfl]
          rfl
        · show RpL Z F _ (if kyK k = kyK k then (kyK k :: qs.map kyK, d :: ds) else _).2
          rw [if_pos rfl]
          exact .cons r l
      · obtain ⟨qs', vs', h1, h2, h3, h4, h5, h6⟩ := put_rel (q := q) r hl (List.nodup_cons.mp n).2 l
        have e1 : putK ((k, w) :: qs.zip vs) q v = (k, w) :: putK (qs.zip vs) q v := by
          unfold putK
          rw [List.any_cons]
          have e0 : decide ((k, w).1 = q) = false := by simpa using c
          rw [e0, Bool.false_or]
          split
          · rw [List.map_cons, if_neg c]
          · rfl
        have cy : ¬ kyK q = kyK k := fun z => c (kyK_inj z).symm
        refine ⟨k :: qs', w :: vs', by show putK ((k, w) :: qs.zip vs) q v = _; rw [e1, h1]; rfl, by simp [h2], List.nodup_cons.mpr ⟨fun z => ?_, h3⟩, fun x => ?_, ?_, ?_⟩
        · rcases (h4 k).mp z with z | z
          · exact c z
          · exact hk z
        · rw [List.mem_cons, h4, List.mem_cons]
          exact ⟨fun z => z.elim (fun z => .inr (.inl z)) fun z => z.elim .inl fun z => .inr (.inr z), fun z => z.elim (fun z => .inr (.inl z)) fun z => z.elim .inl fun z => .inr (.inr z)⟩
        · show (if kyK q = kyK k then (kyK k :: qs.map kyK, d :: ds) else (kyK k :: (put (kyK q) d (qs.map kyK) ds).1, e :: (put (kyK q) d (qs.map kyK) ds).2)).1 = _
          rw [if_neg cy, h5]
          rfl
        · show RpL Z F _ (if kyK q = kyK k then (kyK k :: qs.map kyK, d :: ds) else (kyK k :: (put (kyK q) d (qs.map kyK) ds).1, e :: (put (kyK q) d (qs.map kyK) ds).2)).2
          rw [if_neg cy]
          exact .cons rw' h6
theorem merge_rel {Z : Wd} {F : Hp} : ∀ {ms : List Key} {us : List VV} {es : List D} {qs : List Key} {vs : List VV} {ds : List D}, ms.length = us.length → RpL Z F us es → qs.length = vs.length → qs.Nodup → RpL Z F vs ds → ∃ (qs' : List Key) (vs' : List VV), mergeK (qs.zip vs) (ms.zip us) = qs'.zip vs' ∧ qs'.length = vs'.length ∧ qs'.Nodup ∧ (putsD (ms.map kyK) es (qs.map kyK) ds).1 = qs'.map kyK ∧ RpL Z F vs' (putsD (ms.map kyK) es (qs.map kyK) ds).2
  | [], us, es, qs, vs, ds, h, m, hl, n, l => by
    exact ⟨qs, vs, by simp [mergeK], hl, n, rfl, l⟩
  | q :: ms, us, es, qs, vs, ds, h, m, hl, n, l => by
    cases m with
    | nil => cases h
    | @cons u us e es r m =>
      obtain ⟨qs1, vs1, h1, h2, h3, _, h5, h6⟩ := put_rel (q := q) r hl n l
      obtain ⟨qs2, vs2, g1, g2, g3, g4, g5⟩ := merge_rel (ms := ms) (show ms.length = us.length by simpa using h) m h2 h3 h6
      refine ⟨qs2, vs2, ?_, g2, g3, ?_, ?_⟩
      · show mergeK (putK (qs.zip vs) q u) (ms.zip us) = _
        rw [h1]
        exact g1
      · show (putsD (ms.map kyK) es (put (kyK q) e (qs.map kyK) ds).1 (put (kyK q) e (qs.map kyK) ds).2).1 = _
        rw [h5]
        exact g4
      · show RpL Z F _ (putsD (ms.map kyK) es (put (kyK q) e (qs.map kyK) ds).1 (put (kyK q) e (qs.map kyK) ds).2).2
        rw [h5]
        exact g5
theorem s_upd {i : Nat} {e' : E} {D : Ends} {σ : Sg} {H : Hp} (h : tS X cls Xw (denS C (.upd i e')) D σ H) : tMs X "dict" rUpd i (tE X cls (wE Xw) (den C e')) D σ H := by
  obtain ⟨B, F, ρ, O, s, r, ρ', hm, en⟩ := (show tS X cls Xw (M.bnd (holds i Ob.isD) fun _ => M.bnd (den C e') fun w => nxt (chg i (updO w))) D σ H from h)
  rcases bnd_inv hm with ⟨x, e0, rfl⟩ | ⟨a, ρ1, e1, e2⟩
  · exact absurd e0 (nx_holds _ _ |>.nx _ _ _)
  · obtain ⟨rfl, _, o, m, hi, hk⟩ := holds_inv e1
    obtain ⟨p, fp, hσ, w, _⟩ := s.sl.own_at hi
    refine ⟨_, hσ, ?_, B, F, ρ1, O, s, RunS.raw (P := pW (zd X cls)) ⟨r, ρ', e2, en⟩ fun wv v F1 H1 ρ2 O1 r ρ' st ⟨fpw, wr, nw⟩ h3 en => ?_⟩
    · cases o with
      | dic ks ds =>
        obtain ⟨_, qs, vs, e, _⟩ := w.r
        exact .inr (.inr (.inl ⟨rfl, .inl ⟨_, e⟩⟩))
      | _ => cases hk
    · obtain ⟨e3, en3⟩ := nxt_inv0 h3 en
      obtain ⟨o1, o2, m1, hi1, hf, rfl⟩ := chg_inv e3
      obtain ⟨p1, fp1, hσ1, w1, sub1, _⟩ := st.sx.sl.own_at hi1
      rw [hσ1] at hσ
      cases hσ
      cases o1 with
      | dic ks ds =>
        cases wv with
        | val _ => cases hf
        | own ow =>
          cases ow with
          | dic ks' ds' =>
            have hf' : (if ks.length + ks'.length ≤ 1000 then some (Ob.dic (putsD ks' ds' ks ds).1 (putsD ks' ds' ks ds).2) else none) = some o2 := hf
            by_cases hl : ks.length + ks'.length ≤ 1000
            · rw [if_pos hl] at hf'
              cases hf'
              obtain ⟨pw, rfl, ww⟩ := wr
              obtain ⟨e4, qs, vs, e5, e6, e7, rfl, l⟩ := w1.r
              obtain ⟨f4, ms, us, f5, f6, f7, rfl, lm⟩ := ww.r
              have hne : _ ≠ pw := fun z => by
                have hb : pw ∈ fpw := ww.r.mem
                have h2 := nw pw hb
                rw [← z] at h2
                exact (s.sl.there _ (st.oo _ (sub1 _ w1.r.mem))).1 h2
              obtain ⟨qs', vs', g1, g2, g3, g4, g5⟩ := merge_rel f6 lm e6 e7 l
              refine ⟨_, pw, _, _, rfl, rfl, e5, f5, hne, ?_, ?_⟩
              · rw [List.length_zip, List.length_zip, ← e6, ← f6, Nat.min_self, Nat.min_self]
                simp at hl
                exact big1000 hl
              · rw [g1]
                have su := st.sx.upd1 hi1 hσ1 w1 (u := .dK (qs'.zip vs')) (o' := .dic (putsD (ms.map kyK) ds' (qs.map kyK) ds).1 (putsD (ms.map kyK) ds' (qs.map kyK) ds).2) ⟨e4, qs', vs', upd_same, g2, g3, g4, g5⟩
                exact en3 σ F1 _ O1 ((StpS.of st).tr su)
            · rw [if_neg hl] at hf'; cases hf'
          | _ => cases hf
      | _ => cases hf
theorem ky_rel {Z : Wd} {F : Hp} {y : VV} {kd : D} {q : Ky} (r : Rp Z F y kd) (h : kyOf kd = some q) : ∃ k : Key, y = kV k ∧ kyK k = q := by
  cases kd with
  | int n => cases r; cases h; exact ⟨.inl n, rfl, rfl⟩
  | str x => cases r; cases h; exact ⟨.inr x, rfl, rfl⟩
  | _ => cases h
theorem lt1000 {n : Nat} (h : n < 1000) : n < sizeLine := by rw [sizeLine_eq]; omega
/-- x[k] = e on a slot's own dict -/
theorem s_seti {i : Nat} {k' e' : E} {D : Ends} {σ : Sg} {H : Hp} (h : tS X cls Xw (denS C (.seti i k' e')) D σ H) : sDPut (tVar i) (tF X cls (wE Xw) (fzM (den C k'))) (tF X cls (wE Xw) (fzM (den C e'))) D σ H := by
  obtain ⟨B, F, ρ, O, s, r, ρ', hm, en⟩ := (show tS X cls Xw (M.bnd (holds i Ob.isD) fun _ => M.bnd (fzM (den C e')) fun d => M.bnd (fzM (den C k')) fun kd => nxt (chg i (putO kd d))) D σ H from h)
  rcases bnd_inv hm with ⟨x, e0, rfl⟩ | ⟨a, ρ1, e1, e2⟩
  · exact absurd e0 (nx_holds _ _ |>.nx _ _ _)
  · obtain ⟨rfl, _, o, m, hi, hk⟩ := holds_inv e1
    obtain ⟨p, fp, hσ, w, _⟩ := s.sl.own_at hi
    refine ⟨B, F, ρ1, O, s, RunS.expr (P := pD (zd X cls)) ⟨r, ρ', e2, en⟩ fun d v F1 H1 ρ1 O1 st rv h3 => ⟨_, hσ, B, F1, ρ1, O1, st.sx, h3.expr (P := pD (zd X cls)) fun kd y F2 H2 ρ2 O2 st2 ry h4 => ?_⟩⟩
    obtain ⟨ρ3, e3, en3⟩ := nxt_inv h4
    obtain ⟨o1, o2, m1, hi1, hf, rfl⟩ := chg_inv e3
    obtain ⟨p1, fp1, hσ1, w1, sub1, _⟩ := st2.sx.sl.own_at hi1
    rw [hσ1] at hσ
    cases hσ
    cases o1 with
    | dic ks ds =>
      have hf' : ((kyOf kd).bind fun k => if ks.length < 1000 then some (Ob.dic (put k d ks ds).1 (put k d ks ds).2) else none) = some o2 := hf
      cases hq : kyOf kd with
      | none => rw [hq] at hf'; cases hf'
      | some q =>
        rw [hq] at hf'
        have hf2 : (if ks.length < 1000 then some (Ob.dic (put q d ks ds).1 (put q d ks ds).2) else none) = some o2 := hf'
        by_cases hl : ks.length < 1000
        · rw [if_pos hl] at hf2
          cases hf2
          obtain ⟨k, rfl, rfl⟩ := ky_rel ry hq
          obtain ⟨e4, qs, vs, e5, e6, e7, rfl, l⟩ := w1.r
          obtain ⟨qs', vs', g1, g2, g3, g4, g5, g6⟩ := put_rel (q := k) (rv.mono st2.ff) e6 e7 l
          have up := DPut.k (k := k) (v := v) e5 (by rw [List.length_zip, ← e6, Nat.min_self]; exact lt1000 (by simpa using hl))
          rw [g1] at up
          refine ⟨_, _, rfl, up, ?_⟩
          exact en3 σ F2 _ O2 (st2.sx.upd1 hi1 hσ1 w1 (u := .dK (qs'.zip vs')) (o' := .dic (put (kyK k) d (qs.map kyK) ds).1 (put (kyK k) d (qs.map kyK) ds).2) ⟨e4, qs', vs', upd_same, g2, g3, g5, g6⟩)
        · rw [if_neg hl] at hf2; cases hf2
    | _ => cases hf
/-! ### several names at once -/
inductive WRs (Z : Wd) (F H G : Hp) : List VV → List W → List Addr → Prop where
  | nil : WRs Z F H G [] [] []
  | cons {v : VV} {w : W} {fp : List Addr} {vs : List VV} {ws : List W} {fps : List Addr} : WR Z F H v fp w → (∀ b ∈ fp, G b = none) → (∀ b ∈ fp, b ∉ fps) → WRs Z F H G vs ws fps → WRs Z F H G (v :: vs) (w :: ws) (fp ++ fps)
theorem WRs.fresh {Z : Wd} {F H G : Hp} {vs : List VV} {ws : List W} {fps : List Addr} (h : WRs Z F H G vs ws fps) : ∀ b ∈ fps, G b = none := by
  induction h with
  | nil => intro b hb; cases hb
  | cons _ n _ _ ih => intro b hb; exact (List.mem_append.mp hb).elim (n b) (ih b)
/-- the stores, one by one -/
theorem sets_run {B : Base} {F H : Hp} {σ : Sg} {ρ : Env} {O : List Addr} (s0 : Sx (zd X cls) B F H σ ρ O) : ∀ {is : List Nat} {vs : List VV} {ws : List W} {fps : List Addr} {σ1 : Sg} {F1 H1 : Hp} {ρ1 ρ2 : Env} {O1 : List Addr} {r : R Unit}, StpS (zd X cls) B σ F H O σ1 F1 H1 ρ1 O1 → WRs (zd X cls) F1 H1 H vs ws fps → (∀ b ∈ fps, b ∉ O1) → setVs is ws ρ1 = some (r, ρ2) →
    is.length = vs.length ∧ ∃ O2, StpS (zd X cls) B σ F H O ((is.zip vs).foldl (fun τ p => τ.set p.1 (some p.2)) σ1) F1 H1 ρ2 O2
  | [], vs, ws, fps, σ1, F1, H1, ρ1, ρ2, O1, r, st, wr, nO, h => by
    cases wr with
    | nil => cases h; exact ⟨rfl, O1, st⟩
    | cons _ _ _ _ => cases h
  | i :: is, vs, ws, fps, σ1, F1, H1, ρ1, ρ2, O1, r, st, wr, nO, h => by
    cases wr with
    | nil => cases h
    | @cons v w fp vs ws fps a b c d =>
      have h' : M.bnd (setV i w) (fun _ => setVs is ws) ρ1 = some (r, ρ2) := h
      unfold M.bnd at h'
      cases q : setV i w ρ1 with
      | none => rw [q] at h'; cases h'
      | some pr =>
        obtain ⟨r1, ρ3⟩ := pr
        rw [q] at h'
        obtain ⟨rfl, O2, st2, m2⟩ := stp_set (F2 := F1) (H2 := H1) (ρ3 := ρ1) s0 st a b (fun x hx => nO x (List.mem_append_left _ hx)) q
        obtain ⟨e, O3, st3⟩ := sets_run s0 st2 d (fun x hx z => (m2 x z).elim (fun z => c x z hx) (nO x (List.mem_append_right _ hx))) h'
        exact ⟨by simp [e], O3, st3⟩
end
end Py
set_option Elab.async false
set_option linter.all false
set_option maxRecDepth 100000
set_option maxHeartbeats 4000000
/-! PyXd: x.setdefault(k, v). -/
namespace Py
open PySem PySem.Spec L2 PySem.SeqAt PyProof.Rows
section
variable {X : Cx} {cls : Nm} {Wx : WX} {C : Cfg}
theorem g_sdf {x : Str} {xp ap cp : Pos} {i : Nat} {e f : Ex} {k' v' : E} (hv : PE X (.Name x xp) (tVar i)) (h2 : [e, f].any isStar = false) (h3 : (ap.endLine == cp.line) = true) (ga : Good X cls Wx C e k') (gb : Good X cls Wx C f v') :
    Good X cls Wx C (.Call (.Attribute (.Name x xp) "setdefault" ap) [e, f] [] cp) (.sdf i k' v') := by
  have m := m2_of (X := X) (o := .Name x xp) (m := "setdefault") (ap := ap) (cp := cp) rfl h2 h3
  have pe : PE X (.Call (.Attribute (.Name x xp) "setdefault" ap) [e, f] [] cp) (tE X cls Wx (den C (.sdf i k' v'))) := by
    refine (pe_dsetd hv ga.fz gb.fz m).mono fun σ H Q h => ?_
    have e0 : den C (.sdf i k' v') = M.bnd (sdfH i) fun _ => M.bnd (fzM (den C k')) fun kd => M.bnd (fzM (den C v')) fun d => sdfM i kd d := by simp only [den] <;> rfl
    rw [e0] at h
    obtain ⟨B, F, ρ, O, s, r, ρ', hm, en⟩ := h
    have hh : ∃ ks ds m, ρ[i]? = some (.own (.dic ks ds) m) ∧ (M.bnd (fzM (den C k')) fun kd => M.bnd (fzM (den C v')) fun d => sdfM i kd d) ρ = some (r, ρ') := by
      unfold M.bnd at hm
      cases q : ρ[i]? with
      | none => simp only [sdfH, q] at hm; cases hm
      | some sl =>
        cases sl with
        | own o m =>
          cases o with
          | dic ks ds => simp only [sdfH, q] at hm; exact ⟨ks, ds, m, rfl, hm⟩
          | _ => simp only [sdfH, q] at hm; cases hm
        | _ => simp only [sdfH, q] at hm; cases hm
    obtain ⟨ks, ds, m0, hi, hm1⟩ := hh
    obtain ⟨p, fp, hσ, w, _⟩ := s.sl.own_at hi
    obtain ⟨_, qs, vs, e5, _⟩ := w.r
    have h1 : Run (zd X cls) B Wx (pW (zd X cls)) (M.bnd (fzM (den C k')) fun kd => M.bnd (fzM (den C v')) fun d => sdfM i kd d) σ F H ρ O Q := ⟨r, ρ', hm1, en⟩
    refine ⟨_, hσ, p, rfl, .inl ⟨_, .inl e5⟩, B, F, ρ, O, s, h1.seq (early_W _) fun kd y F1 H1 ρ1 O1 _ st ry h2 => ⟨B, F1, ρ1, O1, st.sx, h2.seq (early_W _) fun d z F2 H2 ρ2 O2 _ st2 rz h3 => ?_⟩⟩
    obtain ⟨r3, ρ3, hm3, en3⟩ := h3
    unfold sdfM at hm3
    cases q : ρ2[i]? with
    | none => rw [q] at hm3; cases hm3
    | some sl =>
      rw [q] at hm3
      cases sl with
      | own o m =>
        cases o with
        | dic ks2 ds2 =>
          simp only at hm3
          obtain ⟨p1, fp1, hσ1, w1, sub1, _⟩ := st2.sx.sl.own_at q
          rw [hσ1] at hσ
          cases hσ
          cases hq : kyOf kd with
          | none => rw [hq] at hm3; cases hm3
          | some kq =>
            rw [hq] at hm3
            simp only at hm3
            obtain ⟨k, rfl, rfl⟩ := ky_rel ry hq
            obtain ⟨e4, qs, vs, e5, e6, e7, rfl, l⟩ := w1.r
            obtain ⟨lk1, lk2, _⟩ := look_val (q := k) e6 l
            by_cases hl : (qs.map kyK).length < 1000
            · rw [if_pos hl] at hm3
              have hlz : (qs.zip vs).length < sizeLine := by
                rw [List.length_zip, ← e6, Nat.min_self]
                exact lt1000 (by simpa using hl)
              cases hlk : look (kyK k) (qs.map kyK) ds2 with
              | some xd =>
                rw [hlk] at hm3
                cases hm3
                obtain ⟨v, hv1, rv⟩ := lk1 xd hlk
                refine ⟨_, k, e5, rfl, hlz, fun v0 e => ?_, fun e => ?_⟩
                · rw [hv1] at e
                  cases e
                  exact en3 v F2 H2 O2 (Stp.rfl st2.sx) ⟨[], ⟨rv, rfl⟩, fun b hb => nomatch hb⟩
                · rw [hv1] at e; cases e
              | none =>
                rw [hlk] at hm3
                cases hm3
                have hn := lk2 hlk
                refine ⟨_, k, e5, rfl, hlz, fun v0 e => ?_, fun e => ?_⟩
                · rw [hn] at e; cases e
                · obtain ⟨qs', vs', g1, g2, g3, g4, g5, g6⟩ := put_rel (q := k) rz e6 e7 l
                  rw [g1]
                  have ch : Stp (zd X cls) B σ F2 H2 O2 F2 (upd H2 _ (.dK (qs'.zip vs'))) _ O2 := st2.sx.chg (o' := .dic (put (kyK k) d (qs.map kyK) ds2).1 (put (kyK k) d (qs.map kyK) ds2).2) q hσ1 w1.r Sub.rfl (fun a x e => by
                      rw [upd_ne fun z => by subst z; rw [w1.nf a w1.r.mem] at e; cases e]
                      exact st2.sx.fh a x e) (fun b x n e => by
                      rw [upd_ne fun z => n (by rw [z]; exact w1.r.mem)]
                      exact e) (fun b h e => absurd e h) ⟨⟨e4, qs', vs', upd_same, g2, g3, g5, g6⟩, w1.nf, w1.nd⟩
                  exact en3 z F2 _ O2 ch ⟨[], ⟨rz, rfl⟩, fun b hb => nomatch hb⟩
            · rw [if_neg hl] at hm3; cases hm3
        | _ => cases hm3
      | _ => cases hm3
  exact ⟨pe, pt_of pe (by intro _; rfl), fun i h => by cases h⟩
end
end Py
set_option Elab.async false
set_option linter.all false
set_option maxRecDepth 100000
set_option maxHeartbeats 8000000
/-! PyY: the text of an expression does what its translation computes. -/
namespace Py
open PySem PySem.Spec L2 PySem.SeqAt PyProof.Rows
/-- what a context knows of the names -/
structure TcOk (X : Cx) (cls : Nm) (C : Cfg) (tc : Tc) (k : Nat) : Prop where
  N : X.N = tc.N
  nd : X.N.Nodup
  loc : ∀ x, tc.loc x = true → Vis X.env.scope x
  glo : ∀ x, tc.glo x = true → X.env.scope.names.lookup x = some .globalImplicit
  own : ∀ x, tc.own x = true → Loc X.env.scope x ∧ (X.fn x = true ∨ X.env.scope.names.lookup x = some .local)
  lcl : ∀ x, tc.lcl x = true → X.env.scope.names.lookup x = some .local
  oth : ∀ x, tc.lcl x = false → ¬ X.env.scope.names.lookup x = some .local
  fre : ∀ x, (tc.sc.names.lookup x = some .cell ∨ tc.sc.names.lookup x = some .free) → (X.env.scope.names.lookup x = some .cell ∨ X.env.scope.names.lookup x = some .free)
  kind : X.env.scope.kind = .function
  calm : X.calm = true
  sm : (X.K.lookup sysModules).isSome = true
  room : RoomG (k + 1) X.A
  free : ∀ x, tc.blt.contains x = true → X.mg x = none
  gls : ∀ x g d, tc.gls.lookup x = some g → C.glob g = some d → ∃ v u, X.mg x = some u ∧ RelV v u ∧ ∀ F, Rp (zd X cls) F v d
  fns : ∀ x f ps ios, tc.fns.lookup x = some (f, ps, ios) → ∃ a fd, X.mg x = some (.ref a) ∧ PySem.W.keepIn X.K (.ref a) = true ∧ FnG X.prog X.w X.K X.mg X.base k a fd ps (spF (zd X cls) (C.call f)) ∧
    (∀ np, np ≤ ps.length → (np = ps.length ∨ tc.kws.any (· == (x, np)) = true) → ∀ (s : Shared) (us ws : List Value), X.K.In s.heap → us.length = np → ws.length = (ps.drop np).length → BindsTo s fd ⟨us, (ps.drop np).zip ws⟩ (ps.zip (us ++ ws))) ∧
    ∀ np ks pm, tc.kwpAt x np ks = some pm → np + ks.length = ps.length ∧ ∀ (s : Shared) (us ws : List Value), X.K.In s.heap → us.length = np → ws.length = ks.length → BindsTo s fd ⟨us, ks.zip ws⟩ (ps.zip (permL pm (us ++ ws))) ∧ (permL pm (us ++ ws)).length = ps.length
  mks : ∀ x c m, tc.cls.lookup x = some (c, m) → X.mg x = some (.ref (cls c)) ∧ ∃ f a fd ps, C.init c = some f ∧ Mk X.K (cls c) a ∧ FnG X.prog X.w X.K X.mg X.base k a fd ps (spF (zd X cls) (C.call f)) ∧ ps.length = m + 1 ∧ ∀ (s : Shared) (us : List Value), X.K.In s.heap → us.length = ps.length → BindsTo s fd ⟨us, []⟩ (ps.zip us)
  mts : ∀ m, tc.mts.contains m = true → ∀ c f, C.meth c m = some f → ∃ a fd ps, Cls X.K (cls c) ∧ Meth X.K (cls c) m a ∧ ps.length = C.arity f ∧ FnG X.prog X.w X.K X.mg X.base k a fd ps (spF (zd X cls) (C.call f)) ∧ ∀ (s : Shared) (us : List Value), X.K.In s.heap → us.length = ps.length → BindsTo s fd ⟨us, []⟩ (ps.zip us)
  flds : ∀ c f, C.flds c f = true → Cls X.K (cls c) ∧ NoAttr X.K (cls c) f
  xcs : ∀ x c, tc.xcs.lookup x = some c → XkOk X.prog X.K X.mg C.xfl x (cls c) c
  xvl : ∀ k b, C.xval k = some b → ExcC X.K (cls k) ∧ PySem.W.kitOne X.K (.ref (cls k)) (.type "ValueError") = some b
  xfd : ∀ c fs f, C.xfl c = some fs → f ∈ fs → XfC X.K (cls c) ∧ NoAttr X.K (cls c) f
  xsb : ∀ k c b, C.xsub k c = some b → ExcC X.K (cls k) ∧ PySem.W.kitOne X.K (.ref (cls k)) (.ref (cls c)) = some b
  lam : tc.lam = true → C.lamOk = true → ∃ c P CS q qq, RoomG (k + 3) X.A ∧ X.env.scope = tc.sc ∧ X.env.code = .ref c ∧ LamX.TabB X.base X.mg c P ∧ X.env.qual = qq ∧ qq ++ "<lambda>" = q ∧ (P, q) ∈ cls.T ∧ (∀ p ∈ cls.T, p.1 = P → p.2 = q) ∧
    (∀ x, tc.ler.contains x = true → LerOk X.K X.mg CS x) ∧ ∀ c, C.caught c = true → PySem.W.exmOne X.K (.ref (cls c)) (.ref CS) = some true
theorem lookup_free {sc : Scope} : ∀ {names : List (Str × NameKind)} {x : Str}, names.lookup x = some .free →
    (names.map fun (n, k) => if (k == NameKind.free && sc.kind == .function && sc.names.lookup n == some .cell) then (n, NameKind.cell) else (n, k)).lookup x = some .free ∨ (names.map fun (n, k) => if (k == NameKind.free && sc.kind == .function && sc.names.lookup n == some .cell) then (n, NameKind.cell) else (n, k)).lookup x = some .cell
  | [], x, h => by simp at h
  | (n, k0) :: r, x, h => by
    have ih := @lookup_free sc r x
    rw [List.map_cons]
    cases hx : x == n with
    | true =>
      simp only [List.lookup_cons, hx] at h
      cases h
      by_cases hc : (NameKind.free == NameKind.free && sc.kind == .function && sc.names.lookup n == some .cell) = true
      · simp only [if_pos hc, List.lookup_cons, hx]; exact .inr trivial
      · simp only [if_neg hc, List.lookup_cons, hx]; exact .inl trivial
    | false =>
      simp only [List.lookup_cons, hx] at h
      by_cases hc : (k0 == NameKind.free && sc.kind == .function && sc.names.lookup n == some .cell) = true
      · simp only [if_pos hc, List.lookup_cons, hx]; exact ih h
      · simp only [if_neg hc, List.lookup_cons, hx]; exact ih h
section
variable {X : Cx} {cls : Nm} {C : Cfg} {tc : Tc} {k : Nat}
theorem rel_keep {scope : Scope} {env : PySem.Env} {x : Str} {kd : NameKind} (h : kd ≠ .free) (e : scope.names.lookup x = some kd) : (relabel scope env).names.lookup x = some kd := lookup_relS_keep (sc := env.scope) h e
theorem lookup_none {sc : Scope} : ∀ {names : List (Str × NameKind)} {x : Str}, names.lookup x = none → (names.map fun (n, k) => if (k == NameKind.free && sc.kind == .function && sc.names.lookup n == some .cell) then (n, NameKind.cell) else (n, k)).lookup x = none
  | [], x, h => rfl
  | (n, k0) :: r, x, h => by
    have ih := @lookup_none sc r x
    rw [List.map_cons]
    cases hx : x == n with
    | true => simp only [List.lookup_cons, hx] at h; cases h
    | false =>
      simp only [List.lookup_cons, hx] at h
      by_cases hc : (k0 == NameKind.free && sc.kind == .function && sc.names.lookup n == some .cell) = true
      · simp only [if_pos hc, List.lookup_cons, hx]; exact ih h
      · simp only [if_neg hc, List.lookup_cons, hx]; exact ih h
theorem rel_none {scope : Scope} {env : PySem.Env} {x : Str} (e : scope.names.lookup x = none) : (relabel scope env).names.lookup x = none := lookup_none (sc := env.scope) e
theorem rel_free {scope : Scope} {env : PySem.Env} {x : Str} (e : scope.names.lookup x = some .free) : (relabel scope env).names.lookup x = some .free ∨ (relabel scope env).names.lookup x = some .cell := lookup_free (sc := env.scope) e
theorem TcOk.blk (T : TcOk X cls C tc k) {scope : Scope} {own : List (Str × Nat)} (ok : BlkOk X.N X.env.scope scope own) (s : Shared) (H : Hp) (D : Addr) (cl : List (Str × Addr)) (fp : List Addr) :
    TcOk (X.blk s H scope (compEnvC scope cl D X.env) fp) cls C (tc.blk scope) k :=
  { N := T.N, nd := T.nd, kind := ok.kind, calm := T.calm, sm := T.sm, room := T.room, free := T.free, gls := T.gls, fns := T.fns, mks := T.mks, mts := T.mts, flds := T.flds, xcs := T.xcs, xvl := T.xvl, xfd := T.xfd, xsb := T.xsb, lam := fun h => by cases h
    loc := fun x h => by
      have h' : (match scope.names.lookup x with | some .local => true | some .cell => true | some .free => true | _ => false) = true := h
      show Vis (relabel scope X.env) x
      unfold Vis
      split at h'
      · exact .inl (rel_keep (by decide) (by assumption))
      · exact .inr (.inl (rel_keep (by decide) (by assumption)))
      · exact (rel_free (by assumption)).elim (fun z => .inr (.inr z)) fun z => .inr (.inl z)
      · cases h'
    glo := fun x h => by
      have h' : (match scope.names.lookup x with | some .globalImplicit => true | _ => false) = true := h
      show (relabel scope X.env).names.lookup x = _
      split at h'
      · exact rel_keep (by decide) (by assumption)
      · cases h'
    own := fun x h => by
      have h' : (match scope.names.lookup x with | some .local => true | some .cell => true | _ => false) = true := h
      show ((relabel scope X.env).names.lookup x = _ ∨ (relabel scope X.env).names.lookup x = _) ∧ ((scope.names.lookup x == some .cell) = true ∨ (relabel scope X.env).names.lookup x = _)
      split at h'
      · exact ⟨.inl (rel_keep (by decide) (by assumption)), .inr (rel_keep (by decide) (by assumption))⟩
      · rename_i e
        exact ⟨.inr (rel_keep (by decide) e), .inl (by rw [e]; rfl)⟩
      · cases h'
    lcl := fun x h => by
      have h' : (match scope.names.lookup x with | some .local => true | _ => false) = true := h
      show (relabel scope X.env).names.lookup x = _
      split at h'
      · exact rel_keep (by decide) (by assumption)
      · cases h'
    oth := fun x h e => by
      have h' : (match scope.names.lookup x with | some .local => true | _ => false) = false := h
      have e' : (relabel scope X.env).names.lookup x = some .local := e
      cases q : scope.names.lookup x with
      | none => rw [rel_none q] at e'; cases e'
      | some kd =>
        cases kd with
        | «local» => rw [q] at h'; cases h'
        | free => rcases rel_free (env := X.env) q with z | z <;> (rw [z] at e'; cases e')
        | _ => rw [rel_keep (by decide) q] at e'; cases e'
    fre := fun x h => by
      rcases h with h | h
      · exact .inl (rel_keep (by decide) h)
      · exact (rel_free h).elim .inr .inl }
theorem glo_of (T : TcOk X cls C tc k) {x : Str} (h : tc.glo x = true) : Gl X x := T.glo x h
theorem loc_of (T : TcOk X cls C tc k) {x : Str} (h : tc.loc x = true) : Vis X.env.scope x := T.loc x h
theorem blk_ok (T : TcOk X cls C tc k) {scope : Scope} {own : List (Str × Nat)} (h : blkC tc.N tc.sc scope own = true) : BlkOk X.N X.env.scope scope own := by
  have b := blkOk_by h
  rw [T.N]
  exact ⟨b.kind, b.uniq, b.ix, fun y hy e => T.fre y.1 (b.free y hy e), b.own⟩
theorem slot_of (T : TcOk X cls C tc k) {x : Str} {i : Nat} (h : slotOf? tc.N x = some i) : X.N[i]? = some x := by
  rw [T.N]
  unfold slotOf? at h
  obtain ⟨hlt, hx, _⟩ := List.findIdx?_eq_some_iff_getElem.mp h
  rw [List.getElem?_eq_getElem hlt]
  simpa using hx
theorem pt_if {c a b : Ex} {p : Pos} {t ta tb : TT} (hc : PT X c t) (ha : PT X a ta) (hb : PT X b tb) : PT X (.IfExp c a b p) (fun σ H Q => t σ H fun k H1 => if k = true then ta σ H1 Q else tb σ H1 Q) := by
  refine ⟨fun pins s σ H Q I h => ?_⟩
  show wpAny (model X.prog X.w) X.A (do if ← isTrue c X.env (eval c X.env) then isTrue a X.env (eval a X.env) else isTrue b X.env (eval b X.env)) _ _ s
  refine wpAny_bind (thn (hc.run pins s σ H _ I h) fun k s1 ⟨H1, I1, q⟩ => ?_)
  cases k with
  | true => exact ha.run pins s1 σ H1 Q I1 q
  | false => exact hb.run pins s1 σ H1 Q I1 q
theorem goods_map {Wx : WX} {f : Ex → E} (h : ∀ e, Good X cls Wx C e (f e)) : ∀ es : List Ex, Goods X cls Wx C es (es.map f)
  | [] => True.intro
  | e :: es => ⟨h e, goods_map h es⟩
theorem trAs_ok {Wx : WX} {f : Ex → E} (h : ∀ e, Good X cls Wx C e (f e)) : ∀ {ios : List Bool} {es : List Ex} {as : List Ar}, trAs f ios es = some as → GoodA X cls Wx C es as
  | [], [], as, e => by cases e; exact True.intro
  | false :: bs, e :: es, as, hh => by
    obtain ⟨r, hr, rfl⟩ := Option.map_eq_some_iff.mp (show (trAs f bs es).map (fun r => Ar.v (f e) :: r) = some as from hh)
    exact ⟨h e, trAs_ok h hr⟩
  | true :: bs, e :: es, as, hh => by
    have hh' : (match f e with | .var i => (trAs f bs es).map fun r => Ar.io i :: r | _ => none) = some as := hh
    cases q : f e with
    | var i =>
      rw [q] at hh'
      obtain ⟨r, hr, rfl⟩ := Option.map_eq_some_iff.mp hh'
      have g := h e
      rw [q] at g
      exact ⟨g.vr i rfl, trAs_ok h hr⟩
    | _ => rw [q] at hh'; cases hh'
  | [], _ :: _, as, e => by cases e
  | false :: _, [], as, e => by cases e
  | true :: _, [], as, e => by cases e
theorem good_iff {Wx : WX} {e : Ex} {c : Bool} {a : E} (h : c = true → Good X cls Wx C e a) : Good X cls Wx C e (if c = true then a else .stk) := by
  cases c with
  | true => exact h rfl
  | false => exact good_stk e
theorem good_iff' {Wx : WX} {e : Ex} {c : Bool} {a : E} (h : c = false → Good X cls Wx C e a) : Good X cls Wx C e (if c = true then .stk else a) := by
  cases c with
  | false => exact h rfl
  | true => exact good_stk e
theorem free_of (T : TcOk X cls C tc k) {x : Str} (h : tc.free x = true) : okN x = true ∧ Gl X x ∧ X.mg x = none := by
  unfold Tc.free at h
  rw [Bool.and_eq_true, Bool.and_eq_true] at h
  exact ⟨h.1.1, T.glo x h.1.2, T.free x h.2⟩
theorem and3 {a b c : Bool} (h : (a && b && c) = true) : a = true ∧ b = true ∧ c = true := by
  rw [Bool.and_eq_true, Bool.and_eq_true] at h
  exact ⟨h.1.1, h.1.2, h.2⟩
theorem tr_name (T : TcOk X cls C tc k) {Wx : WX} (n : Nat) (x : Str) (p : Pos) : Good X cls Wx C (.Name x p) (trE tc (n + 1) (.Name x p)) := by
  show Good X cls Wx C (.Name x p) (if okN x then (if tc.loc x then (match slotOf? tc.N x with | some i => .var i | none => .stk) else if tc.glo x then (match tc.gls.lookup x with | some g => .glob g | none => .stk) else .stk) else .stk)
  refine good_iff fun ok => ?_
  obtain ⟨o1, o2, o3⟩ := okN_of ok
  cases hl : tc.loc x with
  | true =>
    rw [if_pos rfl]
    cases hs : slotOf? tc.N x with
    | none => exact good_stk _
    | some i =>
      have pv : PE X (.Name x p) (tVar i) := pe_var (slot_of T hs) (loc_of T hl) o2 o3
      have pe : PE X (.Name x p) (tE X cls Wx (den C (.var i))) := pv.mono fun σ H Q h => run_var h
      exact ⟨pe, pt_of pe (by intro _; rfl), fun j hj => by cases hj; exact pv⟩
  | false =>
    rw [if_neg (by decide)]
    refine good_iff fun hg => ?_
    cases hs : tc.gls.lookup x with
    | none => exact good_stk _
    | some g =>
      have pe : PE X (.Name x p) (tE X cls Wx (den C (.glob g))) := by
        cases hd : C.glob g with
        | none =>
          refine ⟨fun pins s σ H Q I h => ?_⟩
          obtain ⟨B, F, ρ, O, sx, h1⟩ := (show tE X cls Wx (valM (C.glob g)) σ H Q from h)
          obtain ⟨d, e, _⟩ := h1.valM sx
          rw [hd] at e
          cases e
        | some d =>
          obtain ⟨v, u, hm, ru, rp⟩ := T.gls x g d hs hd
          refine (pe_glob (glo_of T hg) hm ru o2).mono fun σ H Q h => ?_
          obtain ⟨B, F, ρ, O, sx, h1⟩ := (show tE X cls Wx (valM (C.glob g)) σ H Q from h)
          obtain ⟨d', e, af⟩ := h1.valM sx
          rw [hd] at e
          cases e
          exact af.val sx.fh (rp F)
      exact ⟨pe, pt_of pe (by intro _; rfl), fun j hj => by cases hj⟩
theorem room_units (T : TcOk X cls C tc k) : X.A.units + 180 < cLine := by
  have := T.room.rm.un
  omega
/-- within a lambda -/
theorem TcOk.inLam (T : TcOk X cls C tc k) {A : Around} {outer : List PySem.Env} {s : Shared} {H : Hp} {E : XK} {scope : Scope} {f c' : Addr} (L : LamX.LamS X.env.scope scope) (hr : RoomG (k + 1) (A.deeper (LamX.lamEnv X scope s.heap.objs.size f c'))) :
    TcOk (LamX.lamCx X A outer s H E scope f c') cls C (tc.blk scope) k :=
  { N := T.N, nd := T.nd, kind := L.kind, calm := rfl, sm := T.sm, room := hr, free := T.free, gls := T.gls, fns := T.fns, mks := T.mks, mts := T.mts, flds := T.flds, xcs := T.xcs, xvl := T.xvl, xfd := T.xfd, xsb := T.xsb, lam := fun h => by cases h
    loc := fun x h => by
      have h' : (match scope.names.lookup x with | some .local => true | some .cell => true | some .free => true | _ => false) = true := h
      show Vis scope x
      unfold Vis
      split at h'
      · exact .inl (by assumption)
      · exact .inr (.inl (by assumption))
      · exact .inr (.inr (by assumption))
      · cases h'
    glo := fun x h => by
      have h' : (match scope.names.lookup x with | some .globalImplicit => true | _ => false) = true := h
      show scope.names.lookup x = _
      split at h'
      · assumption
      · cases h'
    own := fun x h => by
      have h' : (match scope.names.lookup x with | some .local => true | some .cell => true | _ => false) = true := h
      split at h'
      · exact absurd rfl (L.own _ (PySem.mem_of_lookup (by assumption))).1
      · exact absurd rfl (L.own _ (PySem.mem_of_lookup (by assumption))).2
      · cases h'
    lcl := fun x h => by
      have h' : (match scope.names.lookup x with | some .local => true | _ => false) = true := h
      show scope.names.lookup x = _
      split at h'
      · assumption
      · cases h'
    oth := fun x h e => by
      have h' : (match scope.names.lookup x with | some .local => true | _ => false) = false := h
      have e' : scope.names.lookup x = some .local := e
      rw [e'] at h'
      cases h'
    fre := fun x h => h }
theorem noArgs_ok {a : Arguments} (h : noArgs a = true) : a = ⟨[], [], none, [], [], none, []⟩ := by
  unfold noArgs at h
  split at h
  · rfl
  · cases h
theorem tr_call (T : TcOk X cls C tc k) {Wx : WX} (n : Nat) (tk : Takes X Wx) (ihL : ∀ {X' : Cx} {tc' : Tc}, TcOk X' cls C tc' k → ∀ Wx, Takes X' Wx → ∀ e, Good X' cls Wx C e (trE tc' n e)) (ih : ∀ e, Good X cls Wx C e (trE tc n e)) (x : Str) (p1 : Pos) (es : List Ex) (kws : List Keyword) (pos : Pos) : Good X cls Wx C (.Call (.Name x p1) es kws pos) (trE tc (n + 1) (.Call (.Name x p1) es kws pos)) := by
  show Good X cls Wx C (.Call (.Name x p1) es kws pos) (if okN x && tc.glo x && ! es.any isStar then (match tc.fns.lookup x with
        | some (f, ps, ios) => (match kwNames kws with
          | some ks => if ks == ps.drop es.length && decide (es.length ≤ ps.length) && (kws.isEmpty || tc.kws.any (· == (x, es.length))) then (match trAs (trE tc n) ios (es ++ kwVals kws) with
            | some as => .call f as
            | none => (match newLast es with
              | some es0 => if kws.isEmpty && es.length == ps.length then .callN f (es0.map (trE tc n)) else .stk
              | none => .stk)) else (match tc.kwpAt x es.length ks with
              | some pm => (match trAs (trE tc n) ((es ++ kwVals kws).map fun _ => false) (es ++ kwVals kws) with
                | some as => .callP f pm as
                | none => .stk)
              | none => .stk)
          | none => .stk)
        | none => if tc.ler.contains x then (match es, kws with
          | [.Lambda ps b sc _], [] => if tc.lam && noArgs ps && LamX.lamSB tc.sc sc then .lerr (trE (tc.blk sc) n b) else .stk
          | _, _ => .stk) else match tc.cls.lookup x with
          | some (c, m) => if kws.isEmpty && es.length == m then .make c (es.map (trE tc n)) else .stk
          | none => match tc.xcs.lookup x with
          | some c => if kws.isEmpty then .mkx c (es.map (trE tc n)) else .stk
          | none => if tc.free x && kws.isEmpty then (match biOf x with
            | some b => if es.isEmpty then .stk else match setArg tc x es with
              | some a => .lns (trE tc n a)
              | none => .bi b (es.map (trE tc n))
            | none => if x == ("isinstance" : Str) then (match es with
              | [e, .Name y _] => if tc.free y then (match tyOf y with
                | some t => .isi (trE tc n e) t
                | none => if y == ("ValueError" : Str) then .isv (trE tc n e) else .stk) else (match tc.xcs.lookup y with
                | some c => if okN y && tc.glo y then .isc (trE tc n e) c else .stk
                | none => .stk)
              | _ => .stk) else .stk) else .stk) else .stk)
  refine good_iff fun h0 => ?_
  obtain ⟨ok, hg, hst⟩ := and3 h0
  have hs : es.any isStar = false := by simpa using hst
  cases hf : tc.fns.lookup x with
  | some fp =>
    obtain ⟨f, ps, ios⟩ := fp
    simp only
    cases hk : kwNames kws with
    | none => exact good_stk _
    | some ks =>
      simp only
      obtain ⟨a, fd, hm, hkp, FG, hb, hbp⟩ := T.fns x f ps ios hf
      split
      rotate_left
      · cases hpm : tc.kwpAt x es.length ks with
        | none => exact good_stk _
        | some pm =>
          simp only
          cases ha : trAs (trE tc n) ((es ++ kwVals kws).map fun _ => false) (es ++ kwVals kws) with
          | none => exact good_stk _
          | some as =>
            obtain ⟨b1, b2⟩ := hbp es.length ks pm hpm
            exact g_callP tk ok (T.glo x hg) hm hkp FG (T.room.mono (Nat.le_succ _)) hk b1 b2 hs (trAs_ok ih ha)
      rename_i h1
      obtain ⟨e1, e2, e3⟩ := and3 h1
      cases ha : trAs (trE tc n) ios (es ++ kwVals kws) with
      | none =>
        simp only
        cases hn : newLast es with
        | none => exact good_stk _
        | some es0 =>
          simp only
          refine good_iff fun h2 => ?_
          rw [Bool.and_eq_true] at h2
          obtain rfl : kws = [] := by simpa using h2.1
          have hlen : es.length = ps.length := by simpa using h2.2
          obtain ⟨dp, rfl⟩ := newLast_ok hn
          refine g_callN tk ok (T.glo x hg) hm hkp FG (T.room.mono (Nat.le_succ _)) hlen (fun s us hK hu => ?_) (by rw [List.any_append, Bool.or_eq_false_iff] at hs; exact hs.1) (goods_map ih es0)
          have := hb ps.length (Nat.le_refl _) (.inl rfl) s us [] hK hu (by simp)
          rwa [List.drop_length, List.append_nil] at this
      | some as =>
        have hks : ks = ps.drop es.length := by simpa using e1
        have hle : es.length ≤ ps.length := of_decide_eq_true e2
        have hor : es.length = ps.length ∨ tc.kws.any (· == (x, es.length)) = true := by
          rw [Bool.or_eq_true] at e3
          rcases e3 with e3 | e3
          · left
            have hz : kws = [] := by simpa using e3
            subst hz
            cases hk
            have := congrArg List.length hks
            simp at this
            omega
          · exact .inr e3
        subst hks
        refine g_call tk ok (T.glo x hg) hm hkp FG (T.room.mono (Nat.le_succ _)) hk (by simp; omega) (hb es.length hle hor) hs (trAs_ok ih ha)
  | none =>
    simp only
    cases hle : tc.ler.contains x with
    | true =>
      rw [if_pos rfl]
      split
      · rename_i ps b sc lp
        refine good_iff fun h1 => ?_
        obtain ⟨e1, e2, e3⟩ := and3 h1
        have ea := noArgs_ok e2
        subst ea
        cases hlo : C.lamOk with
        | false => exact g_lerr0 _ hlo _
        | true =>
          obtain ⟨c, P, CS, q, qq, hr, hsc, hcode, TB, hqq, hq, hmT, hu, hLO, hc⟩ := T.lam e1 hlo
          rw [← hqq] at hq
          have L : LamX.LamS X.env.scope sc := by rw [hsc]; exact LamX.lamS_by e3
          exact g_lerr (T := []) (k := k + 1) (T.glo x hg) (hLO x hle) TB hcode hq hmT hu hr L rfl (fun _ _ _ _ _ => rfl) hlo hc fun A outer s H E f c' hr' => (ihL (T.inLam L hr') _ (takes_of rfl rfl rfl rfl) b).pe
      · exact good_stk _
    | false =>
    rw [if_neg (by decide)]
    cases hc : tc.cls.lookup x with
    | some cm =>
      obtain ⟨c, m⟩ := cm
      simp only
      refine good_iff fun h1 => ?_
      rw [Bool.and_eq_true] at h1
      have hz : kws = [] := by simpa using h1.1
      have hm' : es.length = m := by simpa using h1.2
      subst hz
      obtain ⟨hm, f, a, fd, ps, hi, hM, FG, hl, hb⟩ := T.mks x c m hc
      exact g_make ok (T.glo x hg) hm hM T.room hi FG (by rw [hl, hm']) hb hs (goods_map ih es)
    | none =>
      simp only
      cases hxc : tc.xcs.lookup x with
      | some c =>
        simp only
        refine good_iff fun h1 => ?_
        have hz : kws = [] := by simpa using h1
        subst hz
        exact g_mkx ok (T.glo x hg) (T.room.rm.mono (Nat.succ_le_succ (Nat.zero_le _))) (T.xcs x c hxc) hs (goods_map ih es)
      | none =>
      simp only
      refine good_iff fun h1 => ?_
      rw [Bool.and_eq_true] at h1
      have hz : kws = [] := by simpa using h1.2
      subst hz
      obtain ⟨_, gl, mg⟩ := free_of T h1.1
      cases hb : biOf x with
      | some b =>
        simp only
        refine good_iff' fun h2 => ?_
        cases es with
        | nil => cases h2
        | cons e es =>
          cases hsa : setArg tc x (e :: es) with
          | none => exact g_bi T.sm T.calm T.room.gd (room_units T) hb ok gl mg hs (goods_map ih (e :: es))
          | some a =>
            simp only
            obtain ⟨p1, p2, ee, e1, e2, e3, e4⟩ := setArg_some hsa
            subst e1
            rw [ee]
            obtain ⟨_, gl2, mg2⟩ := free_of T e3
            exact g_lns T.calm gl mg gl2 mg2 e4 (ih a)
      | none =>
        simp only
        refine good_iff fun h2 => ?_
        have hx : x = "isinstance" := by simpa using h2
        subst hx
        split
        · rename_i e y p2
          rw [List.any_cons, Bool.or_eq_false_iff] at hs
          cases h3 : tc.free y with
          | true =>
            rw [if_pos rfl]
            obtain ⟨oy, gy, my⟩ := free_of T h3
            cases ht : tyOf y with
            | none =>
              simp only
              refine good_iff fun h4 => ?_
              have hy : y = ("ValueError" : Str) := by simpa using h4
              subst hy
              exact g_isv gl mg gy my hs.1 (fun k b e => T.xvl k b e) (ih e)
            | some t => exact g_isi ht gl mg oy gy my hs.1 (ih e)
          | false =>
            rw [if_neg (by decide)]
            cases hx : tc.xcs.lookup y with
            | none => exact good_stk _
            | some c =>
              simp only
              refine good_iff fun h4 => ?_
              rw [Bool.and_eq_true] at h4
              exact g_isc gl mg h4.1 (T.glo y h4.2) (T.xcs y c hx).gC hs.1 (fun k b e => T.xsb k c b e) (ih e)
        · exact good_stk _
end
end Py
set_option Elab.async false
set_option linter.all false
set_option maxRecDepth 100000
set_option maxHeartbeats 8000000
/-! PyYa: the law's draw. -/
namespace Py
open PySem PySem.Spec L2 PySem.SeqAt PyProof.Rows
section
variable {X : Cx} {cls : Nm} {C : Cfg} {tc : Tc} {k : Nat} {Wx : WX}
theorem slotX_ok (T : TcOk X cls C tc k) {x : Str} {i : Nat} {p : Pos} (h : slotX tc x = some i) : PE X (.Name x p) (tVar i) := by
  unfold slotX at h
  obtain ⟨h1, h2⟩ := ite_some h
  rw [Bool.and_eq_true] at h1
  obtain ⟨o1, o2, o3⟩ := okN_of h1.1
  exact pe_var (slot_of T h2) (T.loc x h1.2) o2 o3
/-- d[k], k a text -/
def rIK : R2 := fun x y H Q => ∃ a kvs z v, x = .ref a ∧ y = .str z ∧ H a = some (.dK kvs) ∧ valV kvs (.inr z) = some v ∧ Q v H
theorem ix_k (hu : X.A.units + 1 < cLine) : IxR X rIK := by
  intro value slice pins s σ H x y v u Q I rx ry h hs
  obtain ⟨a, kvs, z, w, rfl, rfl, ha, hv, q⟩ := h
  cases rx
  obtain ⟨_, _, vs', rel, dd⟩ := dk_rd I.hok (.of ha)
  exact tail_any dd.typeIs slot_dict_getitem.lookup (d_getItem hu I (.inl ⟨_, .inr z, .of ha, rfl, hv.symm⟩) ry fun w' s' I' r' => ⟨w, H, I', r', q⟩) hs
abbrev drKv (aw ac : Addr) (s : Drw) : List (Key × VV) := [(.inr "wide", .ref aw), (.inr "cells", .ref ac), (.inr "rest", .int s.rest), (.inr "turn", .int s.turn)]
theorem dr_rest {aw ac : Addr} {s : Drw} : valV (drKv aw ac s) (.inr "rest") = some (.int s.rest) := by
  unfold valV
  rw [List.find?_cons, List.find?_cons, List.find?_cons]
  rfl
theorem dr_turn {aw ac : Addr} {s : Drw} : valV (drKv aw ac s) (.inr "turn") = some (.int s.turn) := by
  unfold valV
  rw [List.find?_cons, List.find?_cons, List.find?_cons, List.find?_cons]
  rfl
theorem dr_wide {aw ac : Addr} {s : Drw} : valV (drKv aw ac s) (.inr "wide") = some (.ref aw) := by
  unfold valV
  rw [List.find?_cons]
  rfl
theorem dr_cells {aw ac : Addr} {s : Drw} : valV (drKv aw ac s) (.inr "cells") = some (.ref ac) := by
  unfold valV
  rw [List.find?_cons, List.find?_cons]
  rfl
theorem drK_parts {a b : Ex} {i : Nat} {z : Str} (h : drK tc a b = some (i, z)) : ∃ x xp j q, a = .Name x xp ∧ b = .Constant (.str z) j q ∧ slotX tc x = some i := by
  cases a with
  | Name x xp =>
    cases b with
    | Constant c j q =>
      cases c with
      | str w =>
        have h' : (if tc.drs.contains x then (slotX tc x).map fun s => (s, w) else none) = some (i, z) := h
        obtain ⟨_, h2⟩ := ite_some h'
        obtain ⟨s, hs, e⟩ := Option.map_eq_some_iff.mp h2
        cases e
        exact ⟨x, xp, j, q, rfl, rfl, hs⟩
      | _ => cases h
    | _ => cases h
  | _ => cases h
theorem g_drI (hu : X.A.units + 1 < cLine) {a b : Ex} {p : Pos} {i : Nat} {z : Str} (T : TcOk X cls C tc k) (h : drK tc a b = some (i, z)) : Good X cls Wx C (.Subscript a b p) (.drI i z) := by
  have parts : ∃ x xp j q, a = .Name x xp ∧ b = .Constant (.str z) j q ∧ slotX tc x = some i := by
    cases a with
    | Name x xp =>
      cases b with
      | Constant c j q =>
        cases c with
        | str w =>
          have h' : (if tc.drs.contains x then (slotX tc x).map fun s => (s, w) else none) = some (i, z) := h
          obtain ⟨_, h2⟩ := ite_some h'
          obtain ⟨s, hs, e⟩ := Option.map_eq_some_iff.mp h2
          cases e
          exact ⟨x, xp, j, q, rfl, rfl, hs⟩
        | _ => cases h
      | _ => cases h
    | _ => cases h
  obtain ⟨x, xp, j, q, rfl, rfl, hs⟩ := parts
  have pe : PE X (.Subscript (.Name x xp) (.Constant (.str z) j q) p) (tE X cls Wx (den C (.drI i z))) := by
    refine (pe_ix (ix_k hu) (slotX_ok T hs) (pe_str (x := z)) (fun _ _ => rfl)).mono fun σ H Q h => ?_
    obtain ⟨B, F, ρ, O, s, r, ρ', hm, en⟩ := h
    have hm' : (match drInt i z ρ with | some d => some (R.ok (W.val d), ρ) | none => none) = some (r, ρ') := hm
    cases e : drInt i z ρ with
    | none => rw [e] at hm'; cases hm'
    | some d =>
      rw [e] at hm'
      cases hm'
      unfold drInt at e
      cases w : ρ[i]? with
      | none => rw [w] at e; cases e
      | some sl =>
        rw [w] at e
        cases sl with
        | own o m =>
          cases o with
          | drw st =>
            obtain ⟨pp, fp, hσ, ow, _⟩ := s.sl.own_at w
            obtain ⟨aw, ac, _, hp, _⟩ := ow.r
            have e' : (if z = "rest" then some (D.int st.rest) else if z = "turn" then some (D.int st.turn) else none) = some d := e
            by_cases c1 : z = "rest"
            · rw [if_pos c1] at e'
              cases e'
              subst c1
              exact ⟨_, hσ, pp, _, _, _, rfl, rfl, hp, dr_rest, en _ F H O (Stp.rfl s) ⟨[], ⟨.int _, rfl⟩, fun b hb => nomatch hb⟩⟩
            · rw [if_neg c1] at e'
              by_cases c2 : z = "turn"
              · rw [if_pos c2] at e'
                cases e'
                subst c2
                exact ⟨_, hσ, pp, _, _, _, rfl, rfl, hp, dr_turn, en _ F H O (Stp.rfl s) ⟨[], ⟨.int _, rfl⟩, fun b hb => nomatch hb⟩⟩
              · rw [if_neg c2] at e'; cases e'
          | _ => cases e
        | _ => cases e
  exact ⟨pe, pt_of pe (by intro _; rfl), fun i h => by cases h⟩
theorem drWd_parts {a : Ex} {i : Nat} (h : drWd tc a = some i) : ∃ x xp j q p, a = .Subscript (.Name x xp) (.Constant (.str "wide") j q) p ∧ slotX tc x = some i := by
  cases a with
  | Subscript o b p =>
    have h' : (match drK tc o b with | some (i, z) => if z = "wide" then some i else none | none => none) = some i := h
    cases e : drK tc o b with
    | none => rw [e] at h'; cases h'
    | some iz =>
      obtain ⟨i', z⟩ := iz
      rw [e] at h'
      simp only at h'
      split at h'
      · rename_i hz
        cases h'
        subst hz
        obtain ⟨x, xp, j, qq, rfl, rfl, hs⟩ := drK_parts e
        exact ⟨x, xp, j, qq, p, rfl, hs⟩
      · cases h'
  | _ => cases h
theorem pe_wide (hu : X.A.units + 1 < cLine) (T : TcOk X cls C tc k) {x : Str} {xp q p : Pos} {j i : Nat} (hs : slotX tc x = some i) : PE X (.Subscript (.Name x xp) (.Constant (.str "wide") j q) p) (tOp rIK (tVar i) (tC (.str "wide"))) := pe_ix (ix_k hu) (slotX_ok T hs) pe_str (fun _ _ => rfl)
theorem opr_ne0 (hu : X.A.units + 64 < cLine) : OpR X (compareOp .NotEq) (fun x y H Q => ∃ a b xs, x = .ref a ∧ y = .ref b ∧ H a = some (.lst xs) ∧ H b = some (.lst []) ∧ Q (.bl (!xs.isEmpty)) H) := by
  intro pins s σ H x y v u Q I rx ry h
  obtain ⟨a, b, xs, rfl, rfl, ha, hb, q⟩ := h
  cases rx
  cases ry
  obtain ⟨its, r1, p1, _⟩ := I.list (SqL.of ha)
  obtain ⟨its2, r2, p2, _⟩ := I.list (SqL.of hb)
  cases r2
  have hl := r1.length
  have hu0 : X.A.units < cLine := by omega
  cases xs with
  | nil =>
    cases r1
    exact RcNeAt.lists (e := fun _ => true) p1.isList p2.isList rfl hu0 (fun j h1 _ => absurd h1 (by simp)) X.prog X.w _ _ ⟨.bl false, H, I, rfl, q⟩
  | cons x xs =>
    refine RcNeAt.lists_lengths p1.isList p2.isList ?_ hu0 X.prog X.w _ _ ⟨.bl true, H, I, rfl, q⟩
    rw [List.size_toArray, ← hl]
    simp
theorem g_drW (T : TcOk X cls C tc k) {a b : Ex} {p : Pos} {i : Nat} (h : drWd tc a = some i) (hb : isNil b = true) : Good X cls Wx C (.Compare a [.NotEq] [b] p) (.drW i) := by
  have hu := room_units T
  obtain ⟨x, xp, j, q, p2, rfl, hs⟩ := drWd_parts h
  cases b with
  | List es bp =>
    cases es with
    | cons _ _ => cases hb
    | nil =>
      have key : ∀ σ H Q, tE X cls Wx (den C (.drW i)) σ H Q → tOp (fun x y H Q => ∃ a b xs, x = .ref a ∧ y = .ref b ∧ H a = some (.lst xs) ∧ H b = some (.lst []) ∧ Q (.bl (!xs.isEmpty)) H) (tOp rIK (tVar i) (tC (.str "wide"))) (tLst tNil) σ H Q := by
        intro σ H Q h
        obtain ⟨B, F, ρ, O, s, r, ρ', hm, en⟩ := h
        have hm' : (match drWid i ρ with | some d => some (R.ok (W.val d), ρ) | none => none) = some (r, ρ') := hm
        cases w : ρ[i]? with
        | none => rw [show drWid i ρ = none by unfold drWid; rw [w]] at hm'; cases hm'
        | some sl =>
          cases sl with
          | own o m =>
            cases o with
            | drw st =>
              rw [show drWid i ρ = some (.bl (!st.wide.isEmpty)) by unfold drWid; rw [w]] at hm'
              cases hm'
              obtain ⟨pp, fp, hσ, ow, _⟩ := s.sl.own_at w
              obtain ⟨aw, ac, _, hp, e6, _⟩ := ow.r
              refine ⟨_, hσ, pp, _, _, _, rfl, rfl, hp, dr_wide, by show 0 ≤ sizeLine; decide, fun q hq => ?_⟩
              have gr : Gr cls.T F H F (upd H q (.lst [])) := Gr.own s.fh hq
              refine ⟨aw, q, _, rfl, rfl, gr.hh _ _ e6 (fun _ z => nomatch z), upd_same, ?_⟩
              have := en (.bl (!st.wide.isEmpty)) F _ O (Stp.gr s gr) ⟨[], ⟨.bl _, rfl⟩, fun b hb => nomatch hb⟩
              simpa using this
            | _ => rw [show drWid i ρ = none by unfold drWid; rw [w]] at hm'; cases hm'
          | _ => rw [show drWid i ρ = none by unfold drWid; rw [w]] at hm'; cases hm'
      exact ⟨(pe_cmpR (opr_ne0 (by omega)) (pe_wide (by omega) T hs) (pe_lst pa_nil) rfl).mono key, (pt_cmpR (opr_ne0 (by omega)) (pe_wide (by omega) T hs) (pe_lst pa_nil) rfl).mono fun σ H Q h => key σ H _ h, fun i h => by cases h⟩
  | _ => cases hb
theorem g_drP (T : TcOk X cls C tc k) {o : Ex} {es : List Ex} {ap p : Pos} {i : Nat} (h : drWd tc o = some i) (hz : isZero es = true) (hl : (ap.endLine == p.line) = true) : Good X cls Wx C (.Call (.Attribute o "pop" ap) es [] p) (.drP i) := by
  have hu := room_units T
  obtain ⟨x, xp, j, q, p2, rfl, hs⟩ := drWd_parts h
  have hes : ∃ kk qq, es = [.Constant (.int 0) kk qq] := by
    match es, hz with
    | [.Constant (.int i) kk qq], hz => exact ⟨kk, qq, by have : i = 0 := by simpa [isZero] using hz
                                                          rw [this]⟩
  obtain ⟨kk, qq, rfl⟩ := hes
  have pe : PE X (.Call (.Attribute (.Subscript (.Name x xp) (.Constant (.str "wide") j q) p2) "pop" ap) [.Constant (.int 0) kk qq] [] p) (tE X cls Wx (den C (.drP i))) := by
    refine (pe_bm PySem.F.plainAttrs_list PySem.F.slot_list_pop PySem.F.type_list_pop mt_popAt (pe_wide (by omega) T hs) (pa_cons pe_int pa_nil rfl) (base_ok rfl) rfl hl rfl rfl).mono fun σ H Q h => ?_
    obtain ⟨B, F, ρ, O, s, r, ρ', hm, en⟩ := h
    have hm' : drPop i ρ = some (r, ρ') := hm
    unfold drPop at hm'
    cases w : ρ[i]? with
    | none => rw [w] at hm'; cases hm'
    | some sl =>
      rw [w] at hm'
      cases sl with
      | own o m =>
        cases o with
        | drw st =>
          simp only at hm'
          cases hw : st.wide with
          | nil => rw [hw] at hm'; cases hm'
          | cons n ns =>
            rw [hw] at hm'
            cases hm'
            obtain ⟨pp, fp, hσ, ow, sub, _⟩ := s.sl.own_at w
            obtain ⟨aw, ac, e4, hp, e6, e7⟩ := ow.r
            have nd := ow.nd
            rw [e4] at nd
            have n1 : pp ≠ aw := fun q => by simp [q] at nd
            have n2 : ac ≠ aw := fun q => by simp [q] at nd
            rw [hw] at e6
            refine ⟨_, hσ, pp, _, _, _, rfl, rfl, hp, dr_wide, .inl ⟨rfl, _, SqL.of e6⟩, aw, _, 0, 0, .int n, rfl, rfl, e6, by decide, by decide, ?_, by simp, ?_⟩
            · unfold seqIndex?
              simp
            · have haw : aw ∈ fp := by rw [e4]; simp
              have st' := s.chg (o' := .drw { st with wide := ns }) (F' := F) (H' := upd H aw (.lst (ns.map L2.V.int))) w hσ ow.r Sub.rfl (fun a u e => by
                rw [upd_ne fun z => by subst z; rw [ow.nf _ haw] at e; cases e]
                exact s.fh a u e) (fun b u n e => by
                rw [upd_ne fun z => n (by rw [z]; exact haw)]
                exact e) (fun b h e => absurd e h) ⟨⟨aw, ac, e4, by rw [upd_ne n1]; exact hp, upd_same, by rw [upd_ne n2]; exact e7⟩, ow.nf, ow.nd⟩
              have := en (.int n) F _ O st' ⟨[], ⟨.int _, rfl⟩, fun b hb => nomatch hb⟩
              simpa using this
        | _ => cases hm'
      | _ => cases hm'
  exact ⟨pe, pt_of pe (by intro _; rfl), fun i h => by cases h⟩
end
end Py
set_option Elab.async false
set_option linter.all false
set_option maxRecDepth 100000
set_option maxHeartbeats 8000000
/-! PyYb: every expression, every walk. -/
namespace Py
open PySem PySem.Spec L2 PySem.SeqAt PyProof.Rows
section
variable {cls : Nm} {C : Cfg} {k : Nat}
theorem po_tr {X : Cx} {tc : Tc} {Wx : WX} {n : Nat} (ih : ∀ e, Good X cls Wx C e (trE tc n e)) (o : Option Ex) : match o, trO (trE tc n) o with | none, none => True | some e, some e' => Good X cls Wx C e e' | _, _ => False := by
  cases o with
  | none => exact True.intro
  | some e => exact ih e
theorem tr_bool {X : Cx} {tc : Tc} {Wx : WX} {n : Nat} (ihE : ∀ e, Good X cls Wx C e (trE tc n e)) (op : BoolOp) (vs : List Ex) (p : Pos) : Good X cls Wx C (.BoolOp op vs p) (trE tc (n + 1) (.BoolOp op vs p)) := by
  match vs with
  | [] => exact good_stk _
  | [a] => exact good_stk _
  | [a, b] =>
    cases op with
    | And => exact (gb_and2 (ihE a) (ihE b)).good rfl
    | Or => exact (gb_or2 (ihE a) (ihE b)).good rfl
  | a :: b :: c :: r =>
    have g := ihE (.BoolOp op (b :: c :: r) p)
    have w : PW X (.BoolOp op (b :: c :: r) p) (tB (tE X cls Wx (den C (trE tc n (.BoolOp op (b :: c :: r) p))))) := ⟨fun whole pins s σ H Q I h => g.pt.run pins s σ H Q I h⟩
    cases op with
    | And => exact (gb_and (ihE a) g.pe w).good rfl
    | Or => exact (gb_or (ihE a) g.pe w).good rfl
theorem tr_sub {X : Cx} {tc : Tc} (T : TcOk X cls C tc k) {Wx : WX} {n : Nat} (ihE : ∀ e, Good X cls Wx C e (trE tc n e)) (v s : Ex) (p : Pos) : Good X cls Wx C (.Subscript v s p) (trE tc (n + 1) (.Subscript v s p)) := by
  have hu : X.A.units + 64 < cLine := by have := room_units T; omega
  have plain : isSlice s = false → Good X cls Wx C (.Subscript v s p) (if isSlice s then .stk else match drK tc v s with | some (s, z) => .drI s z | none => .idx (trE tc n v) (trE tc n s)) := fun h => good_iff' fun _ => by
    cases hd : drK tc v s with
    | none => exact g_idx hu h (ihE v) (ihE s)
    | some iz => exact g_drI (by omega) T hd
  cases s with
  | Slice lo hi st p2 =>
    cases st with
    | none =>
      have g := g_slice (p := p) (p2 := p2) (ihE v) (po_tr ihE lo) (po_tr ihE hi)
      cases lo <;> cases hi <;> exact g
    | some st =>
      cases lo with
      | some lo => exact good_stk _
      | none =>
        cases hi with
        | some hi => exact good_stk _
        | none =>
          cases st with
          | UnaryOp op o p3 =>
            cases op with
            | USub =>
              cases o with
              | Constant c j p4 =>
                cases c with
                | int i =>
                  show Good X cls Wx C _ (if i == 1 then .rev (trE tc n v) else .stk)
                  refine good_iff fun h => ?_
                  have hi : i = 1 := by simpa using h
                  subst hi
                  exact g_rev (ihE v)
                | _ => exact good_stk _
              | _ => exact good_stk _
            | _ => exact good_stk _
          | _ => exact good_stk _
  | _ => exact plain rfl
theorem fold_ok {X : Cx} {iter : Ex} (h : isSet iter = false) : ∀ x, foldedSetIterable iter X.env x = pure x := by
  intro x
  cases iter <;> first | rfl | cases h
theorem tr_ok : ∀ (n : Nat) {X : Cx} {tc : Tc}, TcOk X cls C tc k → (∀ Wx, Takes X Wx → ∀ e, Good X cls Wx C e (trE tc n e)) ∧ (∀ Wx, Takes X Wx → ∀ tg e, PI X tg e (tI X cls Wx C (trI tc n tg e)))
  | 0, X, tc, T => ⟨fun Wx _ e => good_stk e, fun Wx _ tg e => pi_of (good_stk e)⟩
  | n + 1, X, tc, T => by
    obtain ⟨ihE, ihI⟩ := tr_ok n T
    have hu : X.A.units + 64 < cLine := by have := room_units T; omega
    have mainE : ∀ Wx, Takes X Wx → ∀ e, Good X cls Wx C e (trE tc (n + 1) e) := by
      intro Wx tk e
      cases e with
      | Constant c j p =>
        cases c with
        | none => exact ⟨pe_lit_non, pt_of pe_lit_non (by intro _; rfl), fun i h => by cases h⟩
        | bool b => exact ⟨pe_lit_bl, pt_of pe_lit_bl (by intro _; rfl), fun i h => by cases h⟩
        | int b => exact ⟨pe_lit_int, pt_of pe_lit_int (by intro _; rfl), fun i h => by cases h⟩
        | str b => exact ⟨pe_lit_str, pt_of pe_lit_str (by intro _; rfl), fun i h => by cases h⟩
        | _ => exact good_stk _
      | Name x p => exact tr_name T n x p
      | BinOp a op b p =>
        show Good X cls Wx C (.BinOp a op b p) (match bopOf op with | some o => .bin o (trE tc n a) (trE tc n b) | none => .stk)
        cases h : bopOf op with
        | none => exact good_stk _
        | some o => rw [bo_of h]; exact g_bin (ihE Wx tk a) (ihE Wx tk b)
      | UnaryOp op a p =>
        cases op with
        | Not => exact g_not (ihE Wx tk a)
        | USub => exact g_neg (ihE Wx tk a)
        | _ => exact good_stk _
      | BoolOp op vs p => exact tr_bool (ihE Wx tk) op vs p
      | IfExp c a b p => exact g_if (ihE Wx tk c) (ihE Wx tk a) (ihE Wx tk b) pt_if
      | Compare a ops bs p =>
        match ops, bs with
        | [op], [b] =>
          show Good X cls Wx C (.Compare a [op] [b] p) (match copOf op with | some o => if behindInMarks op b then .stk else (match drWd tc a with | some i => if isNil b && decide (o = .ne) then .drW i else .stk | none => .cmp o (trE tc n a) (trE tc n b)) | none => .stk)
          cases h : copOf op with
          | none => exact good_stk _
          | some o =>
            simp only
            refine good_iff' fun hm => ?_
            have e := cp_of h
            subst e
            cases hw : drWd tc a with
            | none => exact g_cmp hu hm (ihE Wx tk a) (ihE Wx tk b)
            | some i =>
              simp only
              refine good_iff fun h1 => ?_
              rw [Bool.and_eq_true] at h1
              have ho := of_decide_eq_true h1.2
              subst ho
              exact g_drW T hw h1.1
        | [op, op'], [b, c] =>
          show Good X cls Wx C (.Compare a [op, op'] [b, c] p) (match copOf op, copOf op' with | some o, some o' => if lastMarks [op, op'] [b, c] then .stk else .chain o o' (trE tc n a) (trE tc n b) (trE tc n c) | _, _ => .stk)
          cases h : copOf op with
          | none => exact good_stk _
          | some o =>
            cases h' : copOf op' with
            | none => exact good_stk _
            | some o' =>
              simp only
              refine good_iff' fun hm => ?_
              have e := cp_of h
              have e' := cp_of h'
              subst e e'
              exact g_chain hu hm (ihE Wx tk a) (ihE Wx tk b) (ihE Wx tk c)
        | [], _ => exact good_stk _
        | [_], [] => exact good_stk _
        | [_], _ :: _ :: _ => exact good_stk _
        | [_, _], [] => exact good_stk _
        | [_, _], [_] => exact good_stk _
        | [_, _], _ :: _ :: _ :: _ => exact good_stk _
        | _ :: _ :: _ :: _, _ => exact good_stk _
      | List es p =>
        show Good X cls Wx C (.List es p) (if es.any isStar then .lstS (es.map isStar) (es.map (trX (trE tc n))) else .lst (es.map (trE tc n)))
        cases h : es.any isStar with
        | true => rw [if_pos rfl]; exact g_lstS (ihE Wx tk)
        | false => rw [if_neg (by decide)]; exact g_lst h (goods_map (ihE Wx tk) es)
      | Tuple es j p =>
        show Good X cls Wx C (.Tuple es j p) (if es.any isStar then .tupS (es.map isStar) (es.map (trX (trE tc n))) else .tup (es.map (trE tc n)))
        cases h : es.any isStar with
        | true => rw [if_pos rfl]; exact g_tupS (ihE Wx tk)
        | false => rw [if_neg (by decide)]; exact g_tup h (goods_map (ihE Wx tk) es)
      | Dict ks vs p =>
        show Good X cls Wx C (.Dict ks vs p) (match keysOf ks with | some zs => if vs.any isStar || !(decide (zs.Nodup ∧ zs.length ≤ 15)) || !(ks.length == vs.length) then .stk else .dic zs (vs.map (trE tc n)) | none => .stk)
        cases h : keysOf ks with
        | none => exact good_stk _
        | some zs =>
          simp only
          refine good_iff' fun h1 => ?_
          rw [Bool.or_eq_false_iff, Bool.or_eq_false_iff] at h1
          have h2 : zs.Nodup ∧ zs.length ≤ 15 := by simpa using h1.1.2
          have h3 : ks.length = vs.length := by simpa using h1.2
          exact g_dic h (goods_map (ihE Wx tk) vs) h3 h2
      | Subscript v s p => exact tr_sub T (ihE Wx tk) v s p
      | Attribute v f p => exact good_iff' fun h => g_attr h (fun c hc => T.flds c f hc) (fun c fs hc hf => T.xfd c fs f hc hf) (ihE Wx tk v)
      | Call f es kws p =>
        cases f with
        | Name x p1 => exact tr_call T n tk (fun T' Wx' tk' e => (tr_ok n T').1 Wx' tk' e) (ihE Wx tk) x p1 es kws p
        | Attribute o m ap =>
          cases kws with
          | cons _ _ => exact good_stk _
          | nil =>
            show Good X cls Wx C (.Call (.Attribute o m ap) es [] p) (if isCall o || es.any isStar then .stk else match drWd tc o with
              | some i => if m == ("pop" : Str) && isZero es && ap.endLine == p.line then .drP i else .stk
              | none => match tc.mts.contains m with
              | true => if ap.endLine == p.line && decide (es.length < 20) then .meth (trE tc n o) m (es.map (trE tc n)) else .stk
              | false => if m == ("get" : Str) && ap.endLine == p.line then (match es with
                | [a, b] => .bm .get (trE tc n o) [trE tc n a, trE tc n b]
                | _ => .stk) else if m == ("setdefault" : Str) && ap.endLine == p.line then (match o, es with
                | .Name x _, [a, b] => (match slotX tc x with
                  | some i => .sdf i (trE tc n a) (trE tc n b)
                  | none => .stk)
                | _, _ => .stk) else .stk)
            refine good_iff' fun h1 => ?_
            rw [Bool.or_eq_false_iff] at h1
            cases hw : drWd tc o with
            | some i =>
              simp only
              refine good_iff fun h2 => ?_
              obtain ⟨a1, a2, a3⟩ := and3 h2
              have hmg : m = "pop" := by simpa using a1
              subst hmg
              exact g_drP T hw a2 a3
            | none =>
            simp only
            cases hm : tc.mts.contains m with
            | true =>
              simp only
              refine good_iff fun h2 => ?_
              rw [Bool.and_eq_true] at h2
              exact g_meth tk h1.1 h1.2 h2.1 (of_decide_eq_true h2.2) (T.room.mono (Nat.le_succ _)) (T.mts m hm) (ihE Wx tk o) (goods_map (ihE Wx tk) es)
            | false =>
              simp only
              cases h2 : (m == ("get" : Str) && ap.endLine == p.line) with
              | true =>
                rw [if_pos rfl]
                rw [Bool.and_eq_true] at h2
                have hmg : m = "get" := by simpa using h2.1
                subst hmg
                split
                · exact g_get hu h1.1 h1.2 h2.2 (ihE Wx tk o) (ihE Wx tk _) (ihE Wx tk _)
                · exact good_stk _
              | false =>
                rw [if_neg (by decide)]
                refine good_iff fun h3 => ?_
                rw [Bool.and_eq_true] at h3
                have hmg : m = "setdefault" := by simpa using h3.1
                subst hmg
                split
                · rename_i x xp a b
                  cases hs : slotX tc x with
                  | none => exact good_stk _
                  | some i => exact g_sdf (slotX_ok T hs) h1.2 h3.2 (ihE Wx tk a) (ihE Wx tk b)
                · exact good_stk _
        | _ => exact good_stk _
      | ListComp elt gs sc p =>
        rcases gs with _ | ⟨g, _ | ⟨g2, gr⟩⟩
        · exact good_stk _
        · obtain ⟨tg, iter, ifs, a⟩ := g
          by_cases ha : a = 0
          · subst ha
            show Good X cls Wx C (.ListComp elt [⟨tg, iter, ifs, 0⟩] sc p) (match trP (tc.blk sc) n tg with
              | some p => if blkC tc.N tc.sc sc (ownOf tc.N sc) && decide (ifs.length ≤ 1) && (patIx p).all (((ownOf tc.N sc).map (·.2)).contains ·) && !isSet iter then .lc p (trI tc n tg iter) (ifs.map (trE (tc.blk sc) n)) (trE (tc.blk sc) n elt) ((ownOf tc.N sc).map (·.2)) else .stk
              | none => .stk)
            cases hp : trP (tc.blk sc) n tg with
            | none => exact good_stk _
            | some pt =>
              simp only
              refine good_iff fun h1 => ?_
              rw [Bool.and_eq_true] at h1
              obtain ⟨h1, e4⟩ := h1
              obtain ⟨e1, e2, e3⟩ := and3 h1
              have ok := blk_ok T e1
              have Tb := fun s H D cl fp => T.blk ok s H D cl fp
              have hif : (ifs = [] ∧ ifs.map (trE (tc.blk sc) n) = []) ∨ ∃ c c', ifs = [c] ∧ ifs.map (trE (tc.blk sc) n) = [c'] ∧ ∀ (s : Shared) (H : Hp) (D : Addr) (cl : List (Str × Addr)) (fp : List Addr), Good (X.blk s H sc (compEnvC sc cl D X.env) fp) cls Wx0 C c c' := by
                have hl : ifs.length ≤ 1 := of_decide_eq_true e2
                match ifs, hl with
                | [], _ => exact .inl ⟨rfl, rfl⟩
                | [c], _ => exact .inr ⟨c, _, rfl, rfl, fun s H D cl fp => (tr_ok n (Tb s H D cl fp)).1 Wx0 takes0 c⟩
              have hfold : ∀ x, foldedSetIterable iter X.env x = pure x := fold_ok (by simpa using e4)
              exact (g_lc T.calm T.nd ok (ihI Wx tk tg iter) (fun s H D cl fp => trP_ok (Tb s H D cl fp).N (Tb s H D cl fp).nd (Tb s H D cl fp).own (Tb s H D cl fp).calm n tg pt hp) hif (fun s H D cl fp => (tr_ok n (Tb s H D cl fp)).1 Wx0 takes0 elt) hfold e3).1
          · have e0 : trE tc (n + 1) (.ListComp elt [⟨tg, iter, ifs, a⟩] sc p) = .stk := by
              unfold trE
              split <;> first | rfl | (simp_all)
            rw [e0]
            exact good_stk _
        · have e0 : trE tc (n + 1) (.ListComp elt (g :: g2 :: gr) sc p) = .stk := by
            unfold trE
            split <;> first | rfl | (simp_all)
          rw [e0]
          exact good_stk _
      | DictComp kx vx gs sc p =>
        have main : ∀ tg iter, gs = [⟨tg, iter, [], 0⟩] → Good X cls Wx C (.DictComp kx vx [⟨tg, iter, [], 0⟩] sc p) (match trP (tc.blk sc) n tg with
            | some p => if blkC tc.N tc.sc sc (ownOf tc.N sc) && !isSet iter then .dc p (trI tc n tg iter) (trE (tc.blk sc) n kx) (trE (tc.blk sc) n vx) ((ownOf tc.N sc).map (·.2)) else .stk
            | none => .stk) := by
          intro tg iter _
          cases hp : trP (tc.blk sc) n tg with
          | none => exact good_stk _
          | some pt =>
            simp only
            refine good_iff fun h1 => ?_
            rw [Bool.and_eq_true] at h1
            have ok := blk_ok T h1.1
            have Tb := fun s H D cl fp => T.blk ok s H D cl fp
            exact g_dc T.calm T.nd ok (ihI Wx tk tg iter) (fun s H D cl fp => trP_ok (Tb s H D cl fp).N (Tb s H D cl fp).nd (Tb s H D cl fp).own (Tb s H D cl fp).calm n tg pt hp) (fun s H D cl fp => (tr_ok n (Tb s H D cl fp)).1 Wx0 takes0 kx) (fun s H D cl fp => (tr_ok n (Tb s H D cl fp)).1 Wx0 takes0 vx) (fold_ok (by simpa using h1.2))
        by_cases hgs : ∃ tg iter, gs = [⟨tg, iter, [], 0⟩]
        · obtain ⟨tg, iter, rfl⟩ := hgs
          exact main tg iter rfl
        · have e0 : trE tc (n + 1) (.DictComp kx vx gs sc p) = .stk := by
            unfold trE
            split <;> first | rfl | (simp_all)
          rw [e0]
          exact good_stk _
      | _ => exact good_stk _
    refine ⟨mainE, fun Wx tk tg e => ?_⟩
    have dflt : ∀ (tg e : Ex), PI X tg e (tI X cls Wx C (.of (trE tc n e))) := fun tg e => pi_of (ihE Wx tk e)
    cases e with
    | Call f es kws p =>
      cases f with
      | Name x p1 =>
        cases kws with
        | cons _ _ => exact dflt _ _
        | nil =>
          show PI X tg (.Call (.Name x p1) es [] p) (tI X cls Wx C (if tc.free x && ! es.any isStar && x == ("range" : Str) then (match es with
              | [_] => .rng (es.map (trE tc n))
              | [_, _] => .rng (es.map (trE tc n))
              | _ => .of .stk)
            else if tc.free x && ! es.any isStar && x == ("enumerate" : Str) then (match es, tg with
              | [e], .Tuple .. => .enm (trE tc n e)
              | _, _ => .of .stk)
            else .of (trE tc n (.Call (.Name x p1) es [] p))))
          by_cases c1 : (tc.free x && ! es.any isStar && x == ("range" : Str)) = true
          · rw [if_pos c1]
            obtain ⟨h1, h2, h3⟩ := and3 c1
            obtain ⟨_, gl, mg⟩ := free_of T h1
            have hs : es.any isStar = false := by simpa using h2
            have hx : x = "range" := by simpa using h3
            subst hx
            match es, hs with
            | [a], hs => exact pi_rng gl mg hs (.inl rfl) (goods_map (ihE Wx tk) [a])
            | [a, b], hs => exact pi_rng gl mg hs (.inr rfl) (goods_map (ihE Wx tk) [a, b])
            | [], _ => exact pi_of (good_stk _)
            | _ :: _ :: _ :: _, _ => exact pi_of (good_stk _)
          · rw [if_neg c1]
            by_cases c2 : (tc.free x && ! es.any isStar && x == ("enumerate" : Str)) = true
            · rw [if_pos c2]
              obtain ⟨h1, h2, h3⟩ := and3 c2
              obtain ⟨_, gl, mg⟩ := free_of T h1
              have hs : es.any isStar = false := by simpa using h2
              have hx : x = "enumerate" := by simpa using h3
              subst hx
              match es, hs with
              | [a], hs =>
                rw [List.any_cons, Bool.or_eq_false_iff] at hs
                cases tg with
                | Tuple elts kk tp => exact pi_enm gl mg hs.1 (ihE Wx tk a)
                | _ => exact pi_of (good_stk _)
              | [], _ => exact pi_of (good_stk _)
              | _ :: _ :: _, _ => exact pi_of (good_stk _)
            · rw [if_neg c2]
              exact dflt _ _
      | _ => exact dflt _ _
    | _ => exact dflt _ _
end
end Py
set_option Elab.async false
set_option linter.all false
set_option maxRecDepth 100000
set_option maxHeartbeats 8000000
/-! PyS: statements' text. -/
namespace Py
open PySem PySem.Spec L2 PySem.SeqAt PyProof.Rows
variable {Xw : XK}
def isComp : Ex → Bool
  | .ListComp .. => true
  | .SetComp .. => true
  | .DictComp .. => true
  | _ => false
def isTup : Ex → Bool
  | .Tuple .. => true
  | _ => false
/-- is the comprehension's value swapped with the name's? -/
def swapB (tc : Tc) (x : Str) (p : Pos) (e : Ex) : Option Bool := match e with
  | .ListComp _ _ sc pos => some (tc.lcl x && p.line == pos.line && !(sc.names.any fun (n, k) => n == x && (k == .local || k == .cell)))
  | .SetComp .. => none
  | .DictComp .. => none
  | _ => some false
/-- the stores are in order: a target is no plain local name, or there are not two or three -/
def swapNo (tc : Tc) (ts : List Ex) : Bool := !(ts.length == 2 || ts.length == 3) || ts.any fun t => match t with
  | .Name x _ => !tc.lcl x
  | _ => true
/-- a, b, .. = e, stored in order -/
def trTup (tc : Tc) (g : Ex → E) (n : Nat) (ts : List Ex) (k : Nat) (tp : Pos) (e : Ex) : S := if isTup e && !swapNo tc ts then .stk else (match trP tc n (.Tuple ts k tp) with
  | some p => .setp p (g e)
  | none => .stk)
def swap2 (tc : Tc) (x y : Str) (px py : Pos) (a b : Ex) : Bool :=
  tc.lcl x && tc.lcl y && py.line == px.line && !(x == y) && !isStar a && !isStar b && !([a, b].all (foldedForSure 8)) && !([a, b].all (constantsAlone 8))
def swap3 (tc : Tc) (x y z : Str) (px py pz : Pos) (a b c : Ex) : Bool :=
  tc.lcl x && tc.lcl y && tc.lcl z && py.line == px.line && pz.line == px.line && !(x == y) && !(x == z) && !(y == z) && !isStar a && !isStar b && !isStar c && !([a, b, c].all (foldedForSure 8)) && !([a, b, c].all (constantsAlone 8))
/-- a new draw -/
def retK (tc : Tc) (e : Ex) : Option (Nat × Ex) := match e with
  | .Dict ks [.Name x _, c, .Constant (.int u) _ _, .Constant (.int v) _ _] _ => if decide (keysOf ks = some (["wide", "cells", "rest", "turn"] : List Str)) && u == 0 && v == 0 then (slotX tc x).map fun i => (i, c) else none
  | _ => none
/-- draw['cells'] -/
def drC (tc : Tc) (e : Ex) : Option Nat := match e with
  | .Subscript a b _ => (match drK tc a b with
    | some (i, z) => if z = "cells" then some i else none
    | none => none)
  | _ => none
mutual
def trS (tc : Tc) : Nat → Stmt → S
  | 0, _ => .stk
  | n + 1, st => match st with
    | .Pass _ => .skip
    | .AugAssign (.Name x _) .Add e _ => (match slotOf? tc.N x with
      | some i => if tc.own x then .aug i .add (trE tc n e) else .stk
      | none => .stk)
    | .AugAssign (.Name x _) .Sub e _ => (match slotOf? tc.N x with
      | some i => if tc.own x then .aug i .sub (trE tc n e) else .stk
      | none => .stk)
    | .Raise (some (.Call (.Name x _) es [] _)) none _ => (match tc.xcs.lookup x with
      | some c => if okN x && tc.glo x && !es.any isStar then .rse c (es.map (trE tc n)) else .stk
      | none => .stk)
    | .Break _ => .brk
    | .Continue _ => .cont
    | .Return none _ => .ret (.lit .non)
    | .Return (some e) _ => (match retK tc e with
      | some (i, c) => .retD i (trE tc n c)
      | none => .ret (trE tc n e))
    | .Expr (.Constant (.str _) _ _) _ => .skip
    | .Expr (.Call (.Attribute (.Name x xp) m ap) [e] [] cp) p => if m == ("append" : Str) && ap.endLine == cp.line && !isStar e then (match slotX tc x with
        | some i => .app i (trE tc n e)
        | none => .stk)
      else if m == ("extend" : Str) && ap.endLine == cp.line && !isStar e then (match slotX tc x with
        | some i => .ext i (trE tc n e)
        | none => .stk)
      else if m == ("update" : Str) && ap.endLine == cp.line && !isStar e then (match slotX tc x with
        | some i => .upd i (trE tc n e)
        | none => .stk)
      else .expr (trE tc n (.Call (.Attribute (.Name x xp) m ap) [e] [] cp))
    | .Expr e _ => if isComp e then .stk else .expr (trE tc n e)
    | .If c a b _ => .iff (trE tc n c) (trSs tc n a) (trSs tc n b)
    | .While c a [] _ => .whl (trE tc n c) (trSs tc n a)
    | .For tg it a [] _ => (match trP tc n tg with
      | some p => (match drC tc it with
        | some i => .forC p i (trSs tc n a)
        | none => if isSet it then .stk else .for_ p (trI tc n tg it) (trSs tc n a))
      | none => .stk)
    | .Assign [.Subscript o k _] e _ => (match drK tc o k with
      | some (i, z) => .drS i z (trE tc n e)
      | none => (match o with
        | .Name x _ => (match slotX tc x with
          | some i => .seti i (trE tc n k) (trE tc n e)
          | none => .stk)
        | _ => .stk))
    | .Assign [.Name x xp] e p => (match slotOf? tc.N x, swapB tc x xp e with
      | some i, some _ => if tc.own x then .set i (trE tc n e) else .stk
      | _, _ => .stk)
    | .Assign [.Tuple [.Name x px, .Name y py] k tp] (.Tuple [a, b] k2 tp2) _ => if swap2 tc x y px py a b then (match slotOf? tc.N x, slotOf? tc.N y with
      | some i, some j => .par [i, j] [trE tc n a, trE tc n b]
      | _, _ => .stk) else trTup tc (trE tc n) n [.Name x px, .Name y py] k tp (.Tuple [a, b] k2 tp2)
    | .Assign [.Tuple [.Name x px, .Name y py, .Name z pz] k tp] (.Tuple [a, b, c] k2 tp2) _ => if swap3 tc x y z px py pz a b c then (match slotOf? tc.N x, slotOf? tc.N y, slotOf? tc.N z with
      | some i, some j, some l => .par [i, j, l] [trE tc n a, trE tc n b, trE tc n c]
      | _, _, _ => .stk) else trTup tc (trE tc n) n [.Name x px, .Name y py, .Name z pz] k tp (.Tuple [a, b, c] k2 tp2)
    | .Assign [.Tuple ts k tp] e _ => trTup tc (trE tc n) n ts k tp e
    | .Assign [.Attribute (.Name x _) f _] e _ => (match slotX tc x with
      | some i => .setf i f (trE tc n e)
      | none => .stk)
    | _ => .stk
def trSs (tc : Tc) : Nat → List Stmt → List S
  | 0, _ => [.stk]
  | _ + 1, [] => []
  | n + 1, s :: r => trS tc n s :: trSs tc n r
end
section
variable {X : Cx} {cls : Nm} {C : Cfg} {tc : Tc} {k : Nat}
theorem swap2_ok (T : TcOk X cls C tc k) {x y : Str} {px py pt pt2 : Pos} {a b : Ex} {kt k2 : Nat} (h : swap2 tc x y px py a b = true) : swappedStores [.Tuple [.Name x px, .Name y py] kt pt] (.Tuple [a, b] k2 pt2) X.env = pure (some [x, y]) := by
  unfold swap2 at h
  simp only [Bool.and_eq_true, Bool.not_eq_true', beq_eq_false_iff_ne, beq_iff_eq] at h
  obtain ⟨⟨⟨⟨⟨⟨⟨h1, h2⟩, h3⟩, h4⟩, h5⟩, h6⟩, h7⟩, h8⟩ := h
  have hx : X.env.kindOf x = some .local := T.lcl x h1
  have hy : X.env.kindOf y = some .local := T.lcl y h2
  have hb : X.env.blockKind = .function := by unfold Env.blockKind; rw [T.kind]; rfl
  unfold swappedStores
  simp only [hb, h7, h8]
  simp only [List.length_cons, List.length_nil, List.any_cons, List.any_nil, Bool.or_false]
  rw [if_neg (by decide), if_neg (by
    rw [Bool.or_eq_true]
    rintro (z | z)
    · split at z
      · cases h5
      · cases z
    · split at z
      · cases h6
      · cases z)]
  have e1 : (PySem.Expr.Name x px).pos = px := rfl
  have ne : (y == x) = false := by simpa using fun z => h4 z.symm
  have ne' : ¬ y = x := fun z => h4 z.symm
  simp [List.filterMap_cons, hx, hy, h3, e1, List.eraseDups_cons, ne, ne']
theorem swap3_ok (T : TcOk X cls C tc k) {x y z : Str} {px py pz pt pt2 : Pos} {a b c : Ex} {kt k2 : Nat} (h : swap3 tc x y z px py pz a b c = true) : swappedStores [.Tuple [.Name x px, .Name y py, .Name z pz] kt pt] (.Tuple [a, b, c] k2 pt2) X.env = pure (some [x, y, z]) := by
  unfold swap3 at h
  simp only [Bool.and_eq_true, Bool.not_eq_true', beq_eq_false_iff_ne, beq_iff_eq] at h
  obtain ⟨⟨⟨⟨⟨⟨⟨⟨⟨⟨⟨⟨h1, h2⟩, h2'⟩, h3⟩, h3'⟩, h4⟩, h4'⟩, h4''⟩, h5⟩, h6⟩, h6'⟩, h7⟩, h8⟩ := h
  have hx : X.env.kindOf x = some .local := T.lcl x h1
  have hy : X.env.kindOf y = some .local := T.lcl y h2
  have hz : X.env.kindOf z = some .local := T.lcl z h2'
  have hb : X.env.blockKind = .function := by unfold Env.blockKind; rw [T.kind]; rfl
  unfold swappedStores
  simp only [hb, h7, h8]
  simp only [List.length_cons, List.length_nil, List.any_cons, List.any_nil, Bool.or_false]
  rw [if_neg (by decide), if_neg (by
    rw [Bool.or_eq_true, Bool.or_eq_true]
    rintro (q | q | q)
    · split at q
      · cases h5
      · cases q
    · split at q
      · cases h6
      · cases q
    · split at q
      · cases h6'
      · cases q)]
  have e1 : (PySem.Expr.Name x px).pos = px := rfl
  have n1 : ¬ y = x := fun q => h4 q.symm
  have n2 : ¬ z = x := fun q => h4' q.symm
  have n3 : ¬ z = y := fun q => h4'' q.symm
  simp [List.filterMap_cons, hx, hy, hz, h3, h3', e1, List.eraseDups_cons, n1, n2, n3]
theorem filterMap_lt {α β : Type} (f : α → Option β) : ∀ (l : List α), (l.filterMap f).length = l.length → ∀ a ∈ l, ∃ b, f a = some b
  | [], _, a, ha => by cases ha
  | x :: l, h, a, ha => by
    rw [List.filterMap_cons] at h
    cases q : f x with
    | none =>
      rw [q] at h
      have := List.length_filterMap_le f l
      simp only [List.length_cons] at h
      omega
    | some b =>
      rw [q] at h
      have h' : (l.filterMap f).length = l.length := by simpa using h
      rcases List.mem_cons.mp ha with rfl | ha
      · exact ⟨b, q⟩
      · exact filterMap_lt f l h' a ha
theorem swapNo_ok (T : TcOk X cls C tc k) {ts : List Ex} {j : Nat} {tp : Pos} (h : swapNo tc ts = true) (e : Ex) : swappedStores [.Tuple ts j tp] e X.env = pure none := by
  unfold swappedStores
  cases e with
  | Tuple vs j2 tp2 =>
    simp only
    by_cases h1 : (!(ts.length == 2 || ts.length == 3) || vs.length != ts.length || X.env.blockKind != .function) = true
    · rw [if_pos h1]
    · rw [if_neg h1]
      split
      · rfl
      · rw [if_pos]
        rw [Bool.or_eq_true]
        refine .inl ?_
        rw [bne_iff_ne]
        intro hl
        have key := filterMap_lt _ ts hl
        unfold swapNo at h
        rw [Bool.or_eq_true] at h
        rcases h with h | h
        · exact h1 (by rw [Bool.or_eq_true, Bool.or_eq_true]; exact .inl (.inl h))
        · obtain ⟨t, ht, hn⟩ := List.any_eq_true.mp h
          obtain ⟨b, hb⟩ := key t ht
          cases t with
          | Name x xp =>
            have hx : tc.lcl x = false := by simpa using hn
            have ho : ¬ X.env.kindOf x = some .local := T.oth x hx
            have hf : (X.env.kindOf x == some .local) = false := by simpa using ho
            simp [hf] at hb
          | _ => cases hb
  | _ => rfl
/-! ### several values -/
def Base.mores (B : Base) (l : List Addr) : Base := { B with ex := l ++ B.ex }
theorem Sx.lesss {Z : Wd} {B : Base} {F H : Hp} {σ : Sg} {ρ : Env} {O l : List Addr} (h : Sx Z (B.mores l) F H σ ρ O) : Sx Z B F H σ ρ O := ⟨h.fh, h.f0, h.h0, h.tb, h.ht, h.fn, h.sl, fun b hb => h.pr b (List.mem_append_right _ hb)⟩
theorem Sx.mores {Z : Wd} {B : Base} {F H : Hp} {σ : Sg} {ρ : Env} {O l : List Addr} (h : Sx Z B F H σ ρ O) (k : ∀ b ∈ l, H b ≠ none ∧ F b = none ∧ b ∉ O) : Sx Z (B.mores l) F H σ ρ O := ⟨h.fh, h.f0, h.h0, h.tb, h.ht, h.fn, h.sl, fun b hb => (List.mem_append.mp hb).elim (k b) (h.pr b)⟩
def EndW (Z : Wd) (B : Base) (Xw : XK) (σ : Sg) (F H : Hp) (O : List Addr) (Q : List VV → Hp → Prop) : R (List W) → Env → Prop
  | .ok ws, ρ' => ∀ vs F' H' O' fps, Stp Z B σ F H O F' H' ρ' O' → WRs Z F' H' H vs ws fps → Q vs H'
  | .ex x, ρ' => ∀ F' H' O' cl dx, Stp Z B σ F H O F' H' ρ' O' → ExR Z F' x cl dx → Xw cl dx H'
def tWs (X : Cx) (cls : Nm) (Xw : XK) (C : Cfg) (es : List E) : TA := fun σ H Q => ∃ B F ρ O, Sx (zd X cls) B F H σ ρ O ∧ ∃ r ρ', denWs C es ρ = some (r, ρ') ∧ EndW (zd X cls) B Xw σ F H O Q r ρ'
theorem ws_cons {e : E} {es : List E} {σ : Sg} {H : Hp} {Q : List VV → Hp → Prop} (h : tWs X cls Xw C (e :: es) σ H Q) : tCons (tE X cls (wE Xw) (den C e)) (tWs X cls Xw C es) σ H Q := by
  obtain ⟨B, F, ρ, O, s, rx, ρ', hm, kk⟩ := h
  rcases bnd_inv (show M.bnd (den C e) (fun w => M.bnd (denWs C es) fun ws => M.ret (w :: ws)) ρ = some (rx, ρ') from hm) with ⟨x, e0, rfl⟩ | ⟨w, ρ1, e1, e2⟩
  · exact ⟨B, F, ρ, O, s, .ex x, ρ', e0, fun F1 H1 O1 cl dx st xr => kk F1 H1 O1 cl dx st xr⟩
  refine ⟨B, F, ρ, O, s, .ok w, ρ1, e1, fun v F1 H1 O1 st ⟨fp, wr, nw⟩ => ?_⟩
  have there : ∀ b ∈ fp, H1 b ≠ none ∧ F1 b = none ∧ b ∉ O1 := fun b hb => by
    have nO : b ∉ O1 := fun z => (s.sl.there b (st.oo b z)).1 (nw b hb)
    cases w with
    | val d => rw [wr.2] at hb; cases hb
    | own o =>
      obtain ⟨p, _, ow⟩ := wr
      exact ⟨ow.r.there b hb, ow.nf b hb, nO⟩
  rcases bnd_inv e2 with ⟨x, e0, rfl⟩ | ⟨ws, ρ2, e3, e4⟩
  · exact ⟨B.mores fp, F1, ρ1, O1, st.sx.mores there, .ex x, ρ', e0, fun F2 H2 O2 cl dx st2 xr => kk F2 H2 O2 cl dx (st.tr ⟨st2.sx.lesss, st2.oo, st2.ff, st2.kk, st2.tt⟩) xr⟩
  cases e4
  refine ⟨B.mores fp, F1, ρ1, O1, st.sx.mores there, .ok ws, ρ', e3, fun vs F2 H2 O2 fps st2 wrs => ?_⟩
  have st2' : Stp (zd X cls) B σ F1 H1 O1 F2 H2 ρ' O2 := ⟨st2.sx.lesss, st2.oo, st2.ff, st2.kk, st2.tt⟩
  refine kk (v :: vs) F2 H2 O2 (fp ++ fps) (st.tr st2') (.cons ?_ nw (fun b hb z => (there b hb).1 (wrs.fresh b z)) ?_)
  · cases w with
    | val d => exact ⟨Rp.mono st2.ff wr.1, wr.2⟩
    | own o =>
      obtain ⟨p, rfl, ow⟩ := wr
      exact ⟨p, rfl, ow.r.keep st2.ff fun b hb u eu n1 => st2.kk b u (there b hb).2.2 eu n1, fun b hb => (st2.sx.pr b (List.mem_append_left _ hb)).2.1, ow.nd⟩
  · have re : ∀ {vs ws fps}, WRs (zd X cls) F2 H2 H1 vs ws fps → WRs (zd X cls) F2 H2 H vs ws fps := by
      intro vs ws fps h
      induction h with
      | nil => exact .nil
      | cons a b c _ ih => exact .cons a (fun x hx => by
          cases q : H x with
          | none => rfl
          | some o => exact absurd (b x hx) (st.tt x (by rw [q]; simp))) c ih
    exact re wrs
theorem pa_ws : ∀ {es : List Ex} {es' : List E}, es.any isStar = false → Goods X cls (wE Xw) C es es' → PA X es (tWs X cls Xw C es')
  | [], [], _, _ => pa_nil.mono fun σ H Q ⟨B, F, ρ, O, s, ws, ρ', hm, kk⟩ => by
    cases hm
    exact kk [] F H O [] (Stp.rfl s) .nil
  | e :: es, e' :: es', hs, g => by
    rw [List.any_cons, Bool.or_eq_false_iff] at hs
    exact (pa_cons g.1.pe (pa_ws hs.2 g.2) (star_cons hs.1)).mono fun σ H Q h => ws_cons h
  | [], _ :: _, _, g => g.elim
  | _ :: _, [], _, g => g.elim
theorem s_parW {is : List Nat} {es : List E} {D : Ends} {σ : Sg} {H : Hp} (h : tS X cls Xw (denS C (.par is es)) D σ H) : tWs X cls Xw C es σ H fun vs H1 => is.length = vs.length ∧ D.nx ((is.zip vs).foldl (fun τ p => τ.set p.1 (some p.2)) σ) H1 := by
  obtain ⟨B, F, ρ, O, s, r, ρ', hm, en⟩ := (show tS X cls Xw (M.bnd (denWs C es) fun ws => nxt (setVs is ws)) D σ H from h)
  rcases bnd_inv hm with ⟨x, e0, rfl⟩ | ⟨ws, ρ1, e1, e2⟩
  · exact ⟨B, F, ρ, O, s, .ex x, ρ', e0, fun F1 H1 O1 cl dx st xr => en cl dx σ F1 H1 O1 (.of st) xr⟩
  · obtain ⟨e3, en3⟩ := nxt_inv0 e2 en
    refine ⟨B, F, ρ, O, s, .ok ws, ρ1, e1, fun vs F' H' O' fps st wrs => ?_⟩
    obtain ⟨hl, O2, st2⟩ := sets_run s (.of st) wrs (fun b hb z => (s.sl.there b (st.oo b z)).1 (wrs.fresh b hb)) e3
    exact ⟨hl, en3 _ F' H' O2 st2⟩
theorem tWs_imp {es : List E} {σ : Sg} {H : Hp} {Q Q' : List VV → Hp → Prop} (h : tWs X cls Xw C es σ H Q) (c : ∀ vs H, Q vs H → Q' vs H) : tWs X cls Xw C es σ H Q' := by
  obtain ⟨B, F, ρ, O, s, r, ρ', hm, kk⟩ := h
  refine ⟨B, F, ρ, O, s, r, ρ', hm, ?_⟩
  cases r with
  | ok ws => exact fun vs F' H' O' fps st wrs => c _ _ (kk vs F' H' O' fps st wrs)
  | ex x => exact kk
end
end Py
set_option Elab.async false
set_option linter.all false
set_option maxRecDepth 100000
set_option maxHeartbeats 8000000
/-! PySa: the law's draw, statements. -/
namespace Py
open PySem PySem.Spec L2 PySem.SeqAt PyProof.Rows
variable {Xw : XK}
theorem SlR.io_at {Z : Wd} {H0 F H : Hp} {σ : Sg} {ρ : Env} {J : IoJ} {O : List Addr} {o : Ob} (h : SlR Z H0 F H σ ρ J O) : ∀ {i : Nat}, ρ[i]? = some (.own o true) → ∃ p fp, σ[i]? = some (some (L2.V.ref p)) ∧ Own Z F H p fp o ∧ J[i]? = some (some (p, fp)) ∧ ∀ b ∈ fp, b ∈ O := by
  induction h with
  | nil => intro i e; simp at e
  | un _ ih => intro i e; cases i with
    | zero => simp at e
    | succ i => obtain ⟨p, fp, a, b, c, d⟩ := ih (i := i) (by simpa using e); exact ⟨p, fp, a, b, by simpa using c, d⟩
  | val r _ ih => intro i e; cases i with
    | zero => simp at e
    | succ i => obtain ⟨p, fp, a, b, c, d⟩ := ih (i := i) (by simpa using e); exact ⟨p, fp, a, b, by simpa using c, d⟩
  | own w f n _ ih => intro i e; cases i with
    | zero => simp at e
    | succ i => obtain ⟨p, fp, a, b, c, d⟩ := ih (i := i) (by simpa using e); exact ⟨p, fp, a, b, by simpa using c, fun x hx => List.mem_append_right _ (d x hx)⟩
  | io w n _ ih => intro i e; cases i with
    | zero => simp at e; subst e; exact ⟨_, _, rfl, w, rfl, fun b hb => List.mem_append_left _ hb⟩
    | succ i => obtain ⟨p, fp, a, b, c, d⟩ := ih (i := i) (by simpa using e); exact ⟨p, fp, a, b, by simpa using c, fun x hx => List.mem_append_right _ (d x hx)⟩
section
variable {X : Cx} {cls : Nm} {C : Cfg} {tc : Tc} {k : Nat}
theorem put_rest {aw ac : Addr} {s : Drw} {v : Int} : putK (drKv aw ac s) (.inr "rest") (.int v) = drKv aw ac { s with rest := v } := rfl
theorem put_turn {aw ac : Addr} {s : Drw} {v : Int} : putK (drKv aw ac s) (.inr "turn") (.int v) = drKv aw ac { s with turn := v } := rfl
theorem s_drS {i : Nat} {z : Str} {e' : E} {D : Ends} {σ : Sg} {H : Hp} (h : tS X cls Xw (denS C (.drS i z e')) D σ H) : sDPut (tVar i) (tC (.str z)) (tF X cls (wE Xw) (fzM (den C e'))) D σ H := by
  obtain ⟨B, F, ρ, O, s, h1⟩ := (show tS X cls Xw (M.bnd (fzM (den C e')) fun d => match d with | .int v => nxt (chg i (drSet z v)) | _ => M.stuck) D σ H from h)
  refine ⟨B, F, ρ, O, s, h1.expr (P := pD (zd X cls)) fun d v F1 H1 ρ1 O1 st rv h3 => ?_⟩
  cases d with
  | int n =>
    cases rv
    obtain ⟨ρ3, e3, en3⟩ := nxt_inv h3
    obtain ⟨o1, o2, m1, hi1, hf, rfl⟩ := chg_inv e3
    obtain ⟨p, fp, hσ, w, _⟩ := st.sx.sl.own_at hi1
    cases o1 with
    | drw sd =>
      obtain ⟨aw, ac, e4, e5, e6, e7⟩ := w.r
      have nd := w.nd
      rw [e4] at nd
      have n1 : aw ≠ p := fun q => by simp [q] at nd
      have n2 : ac ≠ p := fun q => by simp [q] at nd
      have hf' : (if z = "rest" then some (Ob.drw { sd with rest := n }) else if z = "turn" then some (Ob.drw { sd with turn := n }) else none) = some o2 := hf
      by_cases c1 : z = "rest"
      · rw [if_pos c1] at hf'
        cases hf'
        subst c1
        have up := DPut.k (k := .inr "rest") (v := .int n) e5 (by show 4 < sizeLine; decide)
        refine ⟨_, hσ, p, _, rfl, up, ?_⟩
        refine en3 σ F1 _ O1 (st.sx.upd1 hi1 hσ w ⟨aw, ac, e4, by rw [upd_same]; rfl, by rw [upd_ne n1]; exact e6, by rw [upd_ne n2]; exact e7⟩)
      · rw [if_neg c1] at hf'
        by_cases c2 : z = "turn"
        · rw [if_pos c2] at hf'
          cases hf'
          subst c2
          have up := DPut.k (k := .inr "turn") (v := .int n) e5 (by show 4 < sizeLine; decide)
          refine ⟨_, hσ, p, _, rfl, up, ?_⟩
          refine en3 σ F1 _ O1 (st.sx.upd1 hi1 hσ w ⟨aw, ac, e4, by rw [upd_same]; rfl, by rw [upd_ne n1]; exact e6, by rw [upd_ne n2]; exact e7⟩)
        · rw [if_neg c2] at hf'; cases hf'
    | _ => cases hf
  | _ => obtain ⟨r, ρ', hm, en⟩ := h3; cases hm
theorem comp_sub {e o f : Ex} {p : Pos} {l : Nat} : swapsWith e (some (.Subscript o f p)) l X.env = pure false := by cases e <;> rfl
theorem ps_drS (T : TcOk X cls C tc k) {o b e : Ex} {q p : Pos} {i : Nat} {z : Str} {e' : E} (h : drK tc o b = some (i, z)) (g : Good X cls (wE Xw) C e e') : PS X (.Assign [.Subscript o b q] e p) (tS X cls Xw (denS C (.drS i z e'))) := by
  obtain ⟨x, xp, j, qq, rfl, rfl, hs⟩ := drK_parts h
  have hu := room_units T
  exact (ps_dput (by omega) (slotX_ok T hs) pe_str g.fz comp_sub).mono fun D σ H h => s_drS h
theorem cells_inv {i : Nat} {ρ : Env} {cs : List Int} (h : cellsAt i ρ = some cs) : ∃ s, ρ[i]? = some (.own (.drw s) true) ∧ s.cells = cs := by
  unfold cellsAt at h
  cases q : ρ[i]? with
  | none => rw [q] at h; cases h
  | some sl =>
    rw [q] at h
    cases sl with
    | own o m =>
      cases o with
      | drw s =>
        cases m with
        | true => cases h; exact ⟨s, rfl, rfl⟩
        | false => cases h
      | _ => cases h
    | _ => cases h
theorem same_inv {i : Nat} {cs : List Int} {ρ ρ' : Env} {r : R Unit} (h : sameC i cs ρ = some (r, ρ')) : cellsAt i ρ = some cs ∧ ρ' = ρ := by
  unfold sameC at h
  split at h
  · rename_i z; cases h; exact ⟨z, rfl⟩
  · cases h
theorem s_forC {p : Pat} {i : Nat} {body : List S} {D : Ends} {σ : Sg} {H : Hp} (h : tS X cls Xw (denS C (.forC p i body)) D σ H) : tFor (iList X.K (tOp rIK (tVar i) (tC (.str "cells")))) (gP X.K p) (tS X cls Xw (denSs C body)) D σ H := by
  obtain ⟨B, F, ρ, O, s, r, ρ', hm, en⟩ := h
  have hm' : (match cellsAt i ρ with | some cs => forCM p i cs (denSs C body) cs ρ | none => none) = some (r, ρ') := hm
  cases hc : cellsAt i ρ with
  | none => rw [hc] at hm'; cases hm'
  | some cs =>
    rw [hc] at hm'
    obtain ⟨sd, hi, ecs⟩ := cells_inv hc
    obtain ⟨p0, fp0, hσ, w, hJ, _⟩ := s.sl.io_at hi
    obtain ⟨aw, ac, e4, e5, e6, e7⟩ := w.r
    refine ⟨_, hσ, p0, _, _, _, rfl, rfl, e5, dr_cells, ac, rfl, ⟨_, SqL.of e7⟩, ?_⟩
    -- the cells stand wherever the slot still has them
    have stand : ∀ {F2 H2 : Hp} {σ2 : Sg} {ρ2 : Env} {O2 : List Addr}, Sx (zd X cls) B F2 H2 σ2 ρ2 O2 → cellsAt i ρ2 = some cs → H2 ac = some (.lst (cs.map L2.V.int)) := by
      intro F2 H2 σ2 ρ2 O2 s2 hc2
      obtain ⟨s3, hi2, ec2⟩ := cells_inv hc2
      obtain ⟨p2, fp2, _, w2, hJ2, _⟩ := s2.sl.io_at hi2
      rw [hJ] at hJ2
      cases hJ2
      obtain ⟨aw2, ac2, f4, f5, f6, f7⟩ := w2.r
      rw [e4] at f4
      simp at f4
      rw [f4.2, ← ec2]
      exact f7
    let W : Nat → Nat → Sg → Hp → Prop := fun j m σ2 H2 => m = cs.length - j ∧ j ≤ cs.length ∧ ∃ F2 ρ2 O2, Sx (zd X cls) B F2 H2 σ2 ρ2 O2 ∧ RunS (zd X cls) B Xw (forCM p i cs (denSs C body) (cs.drop j)) σ2 F2 H2 ρ2 O2 D
    refine ⟨W, ⟨cs.length, by simp, Nat.zero_le _, F, ρ, O, s, r, ρ', by simpa using hm', en⟩, ?_⟩
    rintro j m σ2 H2 ⟨rfl, hj, F2, ρ2, O2, s2, r2⟩
    by_cases hlt : j < cs.length
    · rw [List.drop_eq_getElem_cons hlt] at r2
      obtain ⟨r, ρ', hm, en⟩ := (show RunS (zd X cls) B Xw (M.bnd (sameC i cs) fun _ => M.bnd (bindP p (.int cs[j])) fun _ => M.bnd (denSs C body) fun f => match f with
        | .nx | .ct => forCM p i cs (denSs C body) (cs.drop (j + 1))
        | .bk => M.ret .nx
        | .rt d => M.ret (.rt d)) σ2 F2 H2 ρ2 O2 D from r2)
      rcases bnd_inv hm with ⟨x, e9, rfl⟩ | ⟨u, ρ3, e0, e1⟩
      · exact absurd e9 (nx_sameC _ _ |>.nx _ _ _)
      · obtain ⟨hc2, rfl⟩ := same_inv e0
        have hL := stand s2 hc2
        refine .inr ⟨⟨cs.map L2.V.int, .int cs[j], SqL.of hL, by simp [hlt]⟩, fun σ' H' => W (j + 1) (cs.length - (j + 1)) σ' H', fun σ' H' w => ⟨_, by omega, w⟩, fun x H' y => ?_⟩
        obtain ⟨rfl, hx⟩ := y
        have ex := hx _ (SqL.of hL)
        have ex' : x = .int cs[j] := by
          rw [List.getElem?_map, List.getElem?_eq_getElem hlt] at ex
          exact (Option.some.inj ex).symm
        subst ex'
        rcases bnd_inv e1 with ⟨x, e9, rfl⟩ | ⟨u, ρ4, e2, e3⟩
        · exact absurd e9 (nx_bindP _ _ |>.nx _ _ _)
        · refine bind_run p s2 (.int _) e2 fun _ σ4 O4 s4 c4 l4 n4 => ?_
          have st4 : StpS (zd X cls) B σ2 F2 H' O2 σ4 F2 H' ρ4 O4 := ⟨s4, fun b hb => .inl (c4 b hb), Sub.rfl, fun _ _ _ e _ => e, fun _ e => e⟩
          rcases bnd_inv e3 with ⟨x, e9, rfl⟩ | ⟨f, ρ5, e5, e6⟩
          · exact ⟨B, F2, ρ4, O4, s4, .ex x, ρ', e9, fun cl dx σ' F' H'' O' st5 xr => en cl dx σ' F' H'' O' (st4.tr st5) xr⟩
          · refine ⟨B, F2, ρ4, O4, s4, .ok f, ρ5, e5, ?_⟩
            cases f with
            | nx => exact fun σ' F' H'' O' st5 => ⟨rfl, hlt, F', ρ5, O', st5.sx, r, ρ', e6, en.later (st4.tr st5)⟩
            | ct => exact fun σ' F' H'' O' st5 => ⟨rfl, hlt, F', ρ5, O', st5.sx, r, ρ', e6, en.later (st4.tr st5)⟩
            | bk =>
              cases e6
              exact fun σ' F' H'' O' st5 => en σ' F' H'' O' (st4.tr st5)
            | rt d =>
              cases e6
              exact en.later st4
    · have ej : j = cs.length := by omega
      subst ej
      rw [List.drop_length] at r2
      obtain ⟨r, ρ', hm, en⟩ := (show RunS (zd X cls) B Xw (M.bnd (sameC i cs) fun _ => M.ret .nx) σ2 F2 H2 ρ2 O2 D from r2)
      rcases bnd_inv hm with ⟨x, e9, rfl⟩ | ⟨u, ρ3, e0, e1⟩
      · exact absurd e9 (nx_sameC _ _ |>.nx _ _ _)
      · obtain ⟨hc2, rfl⟩ := same_inv e0
        cases e1
        exact .inl ⟨⟨_, SqL.of (stand s2 hc2), by simp⟩, en σ2 F2 H2 O2 (.rfl s2)⟩
theorem ps_forC (T : TcOk X cls C tc k) (hp : PassesOwn (model X.prog X.w) X.A X.env X.xe) (n : Nat) {tg it : Ex} {a : List Stmt} {a' : List S} {p : Pos} {i : Nat} (pt : Pat) (hpt : trP tc n tg = some pt) (hd : drC tc it = some i) (hb : PSs X a (tS X cls Xw (denSs C a'))) : PS X (.For tg it a [] p) (tS X cls Xw (denS C (.forC pt i a'))) := by
  cases it with
  | Subscript o b q =>
    have hd' : (match drK tc o b with | some (i, z) => if z = "cells" then some i else none | none => none) = some i := hd
    cases e : drK tc o b with
    | none => rw [e] at hd'; cases hd'
    | some iz =>
      obtain ⟨i', z⟩ := iz
      rw [e] at hd'
      simp only at hd'
      split at hd'
      · rename_i hz
        cases hd'
        subst hz
        obtain ⟨x, xp, j, qq, rfl, rfl, hs⟩ := drK_parts e
        have hu := room_units T
        have pe : PE X (.Subscript (.Name x xp) (.Constant (.str "cells") j qq) q) (tOp rIK (tVar i) (tC (.str "cells"))) := pe_ix (ix_k (by omega)) (slotX_ok T hs) pe_str (fun _ _ => rfl)
        exact (ps_for hp T.calm (pi_list pe) (trP_ok T.N T.nd T.own T.calm n tg pt hpt) hb (fun _ => rfl)).mono fun D σ H h => s_forC h
      · cases hd'
  | _ => cases hd
end
end Py
set_option Elab.async false
set_option linter.all false
set_option maxRecDepth 100000
set_option maxHeartbeats 8000000
/-! PySc: the draw is given back. -/
namespace Py
open PySem PySem.Spec L2 PySem.SeqAt PyProof.Rows
variable {Xw : XK}
section
variable {X : Cx} {cls : Nm} {C : Cfg} {tc : Tc} {k : Nat}
theorem drOf_inv {i : Nat} {w : W} {ρ ρ' : Env} {r : R Fl} (h : drOf i w ρ = some (r, ρ')) : ∃ cs ws a b, w = .own (.lst cs) ∧ ρ[i]? = some (.own (.lst ws) false) ∧ allI ws = some a ∧ allI cs = some b ∧ r = .ok (.rt (.own (.drw ⟨a, b, 0, 0⟩))) ∧ ρ' = ρ.set i .un := by
  unfold drOf at h
  cases w with
  | val _ => cases h
  | own o =>
    cases o with
    | lst cs =>
      simp only at h
      cases q : ρ[i]? with
      | none => rw [q] at h; cases h
      | some sl =>
        rw [q] at h
        cases sl with
        | own o m =>
          cases o with
          | lst ws =>
            cases m with
            | true => cases h
            | false =>
              simp only at h
              cases e1 : allI ws with
              | none => rw [e1] at h; cases h
              | some a =>
                cases e2 : allI cs with
                | none => rw [e1, e2] at h; cases h
                | some b =>
                  rw [e1, e2] at h
                  cases h
                  exact ⟨cs, ws, a, b, rfl, rfl, e1, e2, rfl, rfl⟩
          | _ => cases h
        | _ => cases h
    | _ => cases h
abbrev trD (X : Cx) (cls : Nm) (Xw : XK) (C : Cfg) (i : Nat) (e : E) : List (TE × TE) := [(tC (.str "wide"), tVar i), (tC (.str "cells"), tE X cls (wE Xw) (den C e)), (tC (.str "rest"), tC (.int 0)), (tC (.str "turn"), tC (.int 0))]
theorem s_retD {i : Nat} {e' : E} {D : Ends} {σ : Sg} {H : Hp} (h : tS X cls Xw (denS C (.retD i e')) D σ H) : tRet (tDisp (trD X cls Xw C i e')) D σ H := by
  obtain ⟨B, F, ρ, O, s, r, ρ', hm, en⟩ := (show tS X cls Xw (M.bnd (holds i Ob.isL) fun _ => M.bnd (den C e') fun w => drOf i w) D σ H from h)
  rcases bnd_inv hm with ⟨x, e0, rfl⟩ | ⟨u, ρ1, e1, e2⟩
  · exact absurd e0 (nx_holds _ _ |>.nx _ _ _)
  · obtain ⟨rfl, _, o, m, hi, hk⟩ := holds_inv e1
    rcases bnd_inv e2 with ⟨x, e0, rfl⟩ | ⟨w, ρ2, e3, e4⟩
    · obtain ⟨p, fp, hσ, ow, subO, _⟩ := s.sl.own_at hi
      intro q hq
      have hFq := sub_none s.fh hq
      have gr : Gr cls.T F H F (upd H q (.dK [])) := Gr.own s.fh hq
      have s1 : Sx (zd X cls) (B.more q) F (upd H q (.dK [])) σ ρ1 O := (s.grow gr).more (by rw [upd_same]; simp) hFq (s.new_O hq)
      show ∃ v, σ[i]? = some (some v) ∧ _
      refine ⟨_, hσ, B.more q, F, ρ1, O, s1, .ex x, ρ', e0, fun F1 H1 O1 cl dx st xr => en cl dx σ F1 H1 O1 ⟨st.sx.less, fun b hb => .inl (st.oo b hb), st.ff, fun b o n e n1 => st.kk b o n (by rw [upd_ne (ne_of_none e hq)]; exact e) n1, fun b hb => st.tt b (by
        cases z : H b with
        | none => exact absurd z hb
        | some o => rw [upd_ne (ne_of_none z hq), z]; simp)⟩ xr⟩
    · obtain ⟨cs, ws, a, b, rfl, hi2, ha, hb, rfl, rfl⟩ := drOf_inv e4
      obtain ⟨p, fp, hσ, ow, subO, _⟩ := s.sl.own_at hi
      intro q hq
      have hFq := sub_none s.fh hq
      have gr : Gr cls.T F H F (upd H q (.dK [])) := Gr.own s.fh hq
      have s1 : Sx (zd X cls) (B.more q) F (upd H q (.dK [])) σ ρ1 O := (s.grow gr).more (by rw [upd_same]; simp) hFq (s.new_O hq)
      show ∃ v, σ[i]? = some (some v) ∧ _
      refine ⟨_, hσ, B.more q, F, ρ1, O, s1, .ok (.own (.lst cs)), ρ2, e3, fun v F1 H1 O1 st ⟨fpw, wr, nw⟩ => ?_⟩
      obtain ⟨pc, rfl, owc⟩ := wr
      have hpr := st.sx.pr q List.mem_cons_self
      have hq1 : H1 q = some (.dK []) := st.kk q _ (s.new_O hq) upd_same (fun _ z => nomatch z)
      refine ⟨hq1, drKv p pc ⟨a, b, 0, 0⟩, rfl, by show 4 ≤ 15; decide, ?_⟩
      have em : mergeK [] (drKv p pc ⟨a, b, 0, 0⟩) = drKv p pc ⟨a, b, 0, 0⟩ := rfl
      rw [em]
      have sx' := (st.sx.chg_ex (o := .dK (drKv p pc ⟨a, b, 0, 0⟩)) List.mem_cons_self (show (B.more q).H0 q = none from s.new hq) ⟨_, hq1, fun _ z => nomatch z⟩).less
      obtain ⟨p', fp', O2, hσ', ow', sub', n0', c', nO', sl'⟩ := sx'.sl.drop_at hi2
      rw [hσ] at hσ'
      cases hσ'
      have hpc : pc ∈ fpw := owc.r.mem
      have hHpc : H pc = none := by
        have := nw pc hpc
        by_cases z : pc = q
        · rw [z]; exact hq
        · rw [upd_ne z] at this; exact this
      have hpO : p ∈ O := subO p ow.r.mem
      have hpH : H p ≠ none := (s.sl.there p hpO).1
      have npq : p ≠ q := fun z => hpH (by rw [z]; exact hq)
      have npc : p ≠ pc := fun z => hpH (by rw [z]; exact hHpc)
      have nqc : q ≠ pc := fun z => by
        have := nw pc hpc
        rw [← z, upd_same] at this
        cases this
      obtain ⟨_, vs, w1, l1⟩ := ow'.r
      obtain ⟨_, us, w2, l2⟩ := owc.r
      have e5 := ints_of l1 ha
      have e6 := ints_of l2 hb
      subst e5 e6
      have oo2 : ∀ x ∈ O2, x ∈ O := fun x hx => st.oo x (c' x hx)
      refine en (.ref q) σ F1 _ O2 [q, p, pc] ⟨⟨sx'.fh, sx'.f0, sx'.h0, sx'.tb, sx'.ht, sx'.fn, sl', fun x hx => ⟨(sx'.pr x hx).1, (sx'.pr x hx).2.1, fun z => (sx'.pr x hx).2.2 (c' x z)⟩⟩, fun x hx => .inl (oo2 x hx), st.ff, fun x u n eu n1 => ?_, fun x hx => ?_⟩ ⟨q, rfl, ⟨⟨p, pc, rfl, upd_same, w1, by rw [upd_ne nqc.symm]; exact w2⟩, fun x hx => ?_, by simp [npq.symm, nqc, npc]⟩⟩ fun x hx => ?_
      · have nx : x ≠ q := fun z => by subst z; rw [hq] at eu; cases eu
        rw [upd_ne nx]
        exact st.kk x u n (gr.hh x u eu n1) n1
      · by_cases z : x = q
        · subst z; rw [upd_same]; simp
        · rw [upd_ne z]
          refine st.tt x ?_
          rw [upd_ne z]
          exact hx
      · simp at hx
        rcases hx with rfl | rfl | rfl
        · exact hpr.2.1
        · exact ow'.nf _ ow'.r.mem
        · exact owc.nf _ hpc
      · simp at hx
        rcases hx with rfl | rfl | rfl
        · exact ⟨.inl hq, fun z => hpr.2.2 (c' _ z)⟩
        · exact ⟨.inr hpO, nO' _ ow'.r.mem⟩
        · exact ⟨.inl hHpc, fun z => (s.sl.there _ (oo2 _ z)).1 hHpc⟩
theorem keys_cons {k : Option Ex} {ks : List (Option Ex)} {z : Str} {zs : List Str} (h : keysOf (k :: ks) = some (z :: zs)) : ∃ j p, k = some (.Constant (.str z) j p) ∧ keysOf ks = some zs := by
  cases k with
  | none => cases h
  | some k =>
    cases k with
    | Constant c j p =>
      cases c with
      | str x =>
        obtain ⟨zr, hz, e⟩ := Option.map_eq_some_iff.mp (show (keysOf ks).map (x :: ·) = some (z :: zs) from h)
        cases e
        exact ⟨j, p, rfl, hz⟩
      | _ => cases h
    | _ => cases h
theorem keys_four {ks : List (Option Ex)} {a b c d : Str} (h : keysOf ks = some [a, b, c, d]) : ∃ j1 p1 j2 p2 j3 p3 j4 p4, ks = [some (.Constant (.str a) j1 p1), some (.Constant (.str b) j2 p2), some (.Constant (.str c) j3 p3), some (.Constant (.str d) j4 p4)] := by
  rcases ks with _ | ⟨k1, ks⟩
  · cases h
  obtain ⟨j1, p1, rfl, h1⟩ := keys_cons h
  rcases ks with _ | ⟨k2, ks⟩
  · cases h1
  obtain ⟨j2, p2, rfl, h2⟩ := keys_cons h1
  rcases ks with _ | ⟨k3, ks⟩
  · cases h2
  obtain ⟨j3, p3, rfl, h3⟩ := keys_cons h2
  rcases ks with _ | ⟨k4, ks⟩
  · cases h3
  obtain ⟨j4, p4, rfl, h4⟩ := keys_cons h3
  rcases ks with _ | ⟨k5, ks⟩
  · exact ⟨j1, p1, j2, p2, j3, p3, j4, p4, rfl⟩
  · cases k5 with
    | none => cases h4
    | some k5 =>
      cases k5 with
      | Constant cc j p =>
        cases cc with
        | str x =>
          obtain ⟨zr, hz, e⟩ := Option.map_eq_some_iff.mp (show (keysOf ks).map (x :: ·) = some [] from h4)
          cases e
        | _ => cases h4
      | _ => cases h4
theorem ps_retK (T : TcOk X cls C tc k) (n : Nat) (E : ∀ e, Good X cls (wE Xw) C e (trE tc n e)) {e c : Ex} {i : Nat} {p : Pos} (h : retK tc e = some (i, c)) : PS X (.Return (some e) p) (tS X cls Xw (denS C (.retD i (trE tc n c)))) := by
  unfold retK at h
  split at h
  · rename_i ks x xp c' u j1 p1 v j2 p2 dp
    obtain ⟨h1, h2⟩ := ite_some h
    obtain ⟨a1, a2, a3⟩ := and3 h1
    obtain ⟨s, hs, e0⟩ := Option.map_eq_some_iff.mp h2
    cases e0
    have hk := of_decide_eq_true a1
    have hu : u = 0 := by simpa using a2
    have hv : v = 0 := by simpa using a3
    subst hu hv
    obtain ⟨j1, q1, j2, q2, j3, q3, j4, q4, rfl⟩ := keys_four hk
    exact (ps_ret (pe_disp (pps_cons pe_str (slotX_ok T hs) (pps_cons pe_str (E c).pe (pps_cons pe_str pe_int (pps_cons pe_str pe_int pps_nil)))) rfl rfl (by simp) (by simp))).mono fun D σ H h => s_retD h
  · cases h
end
end Py
set_option Elab.async false
set_option linter.all false
set_option maxRecDepth 100000
set_option maxHeartbeats 8000000
/-! PySb: every statement. -/
namespace Py
open PySem PySem.Spec L2 PySem.SeqAt PyProof.Rows
variable {Xw : XK}
section
variable {X : Cx} {cls : Nm} {C : Cfg} {tc : Tc} {k : Nat}
theorem _root_.L2.PSs.mono {X : Cx} {e : List Stmt} {t t' : TS} (h : PSs X e t) (k : ∀ D σ H, t' D σ H → t D σ H) : PSs X e t' := ⟨fun pins s σ H D I q => h.run pins s σ H D I (k D σ H q)⟩
theorem ps_stk (st : Stmt) : PS X st (tS X cls Xw (denS C .stk)) := ⟨fun pins s σ H D I h => (s_stk h).elim⟩
theorem lcl_of {a b c : Bool} (h : (a && b && c) = true) : a = true := (and3 h).1
theorem ps_set_stk (st : Stmt) (i : Nat) : PS X st (tS X cls Xw (denS C (.set i .stk))) := ⟨fun pins s σ H D I h => by
  obtain ⟨B, F, ρ, O, sx, r, ρ', hm, en⟩ := (show tS X cls Xw (M.bnd (M.stuck : M W) fun w => nxt (setV i w)) D σ H from h)
  cases hm⟩
/-- a comprehension that is known, in its parts -/
theorem lc_parts (tk : Takes X (wE Xw)) (n : Nat) (T : TcOk X cls C tc k) (elt : Ex) (gs : List Comprehension) (sc : Scope) (p : Pos) : trE tc (n + 1) (.ListComp elt gs sc p) = .stk ∨ ∃ tg iter ifs own wi g tt te, gs = [⟨tg, iter, ifs, 0⟩] ∧ PI X tg iter wi ∧ BlkOk X.N X.env.scope sc own ∧
    (∀ (s : Shared) (H : Hp) (D : Addr) (cl : List (Str × Addr)) (fp : List Addr), PG (X.blk s H sc (compEnvC sc cl D X.env) fp) tg g) ∧ (∀ (s : Shared) (H : Hp) (D : Addr) (cl : List (Str × Addr)) (fp : List Addr), PTs (X.blk s H sc (compEnvC sc cl D X.env) fp) ifs tt) ∧
    (∀ (s : Shared) (H : Hp) (D : Addr) (cl : List (Str × Addr)) (fp : List Addr), PE (X.blk s H sc (compEnvC sc cl D X.env) fp) elt te) ∧ (∀ x, foldedSetIterable iter X.env x = pure x) ∧
    ∀ σ H Q, tE X cls (wE Xw) (den C (trE tc (n + 1) (.ListComp elt gs sc p))) σ H Q → tLc wi g tt te (own.map (·.2)) σ H Q := by
  have ihI := (tr_ok n T).2
  rcases gs with _ | ⟨g, _ | ⟨g2, gr⟩⟩
  · exact .inl rfl
  · obtain ⟨tg, iter, ifs, a⟩ := g
    by_cases ha : a = 0
    · subst ha
      have e0 : trE tc (n + 1) (.ListComp elt [⟨tg, iter, ifs, 0⟩] sc p) = (match trP (tc.blk sc) n tg with
            | some p => if blkC tc.N tc.sc sc (ownOf tc.N sc) && decide (ifs.length ≤ 1) && (patIx p).all (((ownOf tc.N sc).map (·.2)).contains ·) && !isSet iter then .lc p (trI tc n tg iter) (ifs.map (trE (tc.blk sc) n)) (trE (tc.blk sc) n elt) ((ownOf tc.N sc).map (·.2)) else .stk
            | none => .stk) := rfl
      rw [e0]
      cases hp : trP (tc.blk sc) n tg with
      | none => exact .inl rfl
      | some pt =>
        simp only
        by_cases h1 : (blkC tc.N tc.sc sc (ownOf tc.N sc) && decide (ifs.length ≤ 1) && (patIx pt).all (((ownOf tc.N sc).map (·.2)).contains ·) && !isSet iter) = true
        · rw [if_pos h1]
          refine .inr ?_
          rw [Bool.and_eq_true] at h1
          obtain ⟨h1, e4⟩ := h1
          obtain ⟨e1, e2, e3⟩ := and3 h1
          have ok := blk_ok T e1
          have Tb := fun s H D cl fp => T.blk ok s H D cl fp
          have hif : (ifs = [] ∧ ifs.map (trE (tc.blk sc) n) = []) ∨ ∃ c c', ifs = [c] ∧ ifs.map (trE (tc.blk sc) n) = [c'] ∧ ∀ (s : Shared) (H : Hp) (D : Addr) (cl : List (Str × Addr)) (fp : List Addr), Good (X.blk s H sc (compEnvC sc cl D X.env) fp) cls Wx0 C c c' := by
            have hl : ifs.length ≤ 1 := of_decide_eq_true e2
            match ifs, hl with
            | [], _ => exact .inl ⟨rfl, rfl⟩
            | [c], _ => exact .inr ⟨c, _, rfl, rfl, fun s H D cl fp => (tr_ok n (Tb s H D cl fp)).1 Wx0 takes0 c⟩
          have hfold : ∀ x, foldedSetIterable iter X.env x = pure x := fold_ok (by simpa using e4)
          have hg := fun s H D cl fp => trP_ok (Tb s H D cl fp).N (Tb s H D cl fp).nd (Tb s H D cl fp).own (Tb s H D cl fp).calm n tg pt hp
          have he := fun s H D cl fp => (tr_ok n (Tb s H D cl fp)).1 Wx0 takes0 elt
          obtain ⟨_, tt, ht, hq⟩ := g_lc (pos := p) T.calm T.nd ok (ihI (wE Xw) tk tg iter) hg hif he hfold e3
          exact ⟨tg, iter, ifs, _, _, _, tt, _, rfl, ihI (wE Xw) tk tg iter, ok, hg, ht, fun s H D cl fp => (he s H D cl fp).fz, hfold, hq⟩
        · rw [if_neg h1]
          exact .inl rfl
    · refine .inl ?_
      unfold trE
      split <;> first | rfl | (simp_all)
  · refine .inl ?_
    unfold trE
    split <;> first | rfl | (simp_all)
theorem comp_none {e : Ex} (h : isComp e = false) {l : Nat} : swapsWith e none l X.env = pure false := by cases e <;> first | rfl | cases h
theorem comp_name {e : Ex} (h : isComp e = false) {x : Str} {p : Pos} {l : Nat} : swapsWith e (some (.Name x p)) l X.env = pure false := by cases e <;> first | rfl | cases h
theorem comp_tup {e : Ex} {ts : List Ex} {j : Nat} {p : Pos} {l : Nat} : swapsWith e (some (.Tuple ts j p)) l X.env = pure false := by cases e <;> rfl
theorem comp_attr {e o : Ex} {f : Str} {p : Pos} {l : Nat} : swapsWith e (some (.Attribute o f p)) l X.env = pure false := by cases e <;> rfl
/-- o.m(e) on a slot's own object -/
theorem ps_ms {x : Str} {i : Nat} {T m id : String} {xp ap cp p : Pos} {e : Ex} {te : TE} {r : VV → List VV → Hp → VK → Prop} (hv : PE X (.Name x xp) (tVar i)) (pa : PlainAttrs T) (slot : PySem.Slot T m id) (hty : typeOf (.builtin id) = pure (.type "method_descriptor")) (hm : MtR X id r) (hl : (ap.endLine == cp.line) = true) (hs : isStar e = false) (he : PE X e te) :
    PS X (.Expr (.Call (.Attribute (.Name x xp) m ap) [e] [] cp) p) (tMs X T r i te) := by
  have hs1 : [e].any isStar = false := by rw [List.any_cons, hs]; rfl
  refine ps_expr (pe_bm pa slot hty hm hv (pa_cons he pa_nil (star_cons hs)) (base_ok rfl) ?_ hl (star_cons hs) rfl) rfl
  rw [back_plain hs1]
  rfl
theorem par2_ok (T : TcOk X cls C tc k) (n : Nat) (E : ∀ e, Good X cls (wE Xw) C e (trE tc n e)) {x y : Str} {px py tp tp2 p : Pos} {j j2 : Nat} {a b : Ex} {r : S} (hr : PS X (.Assign [.Tuple [.Name x px, .Name y py] j tp] (.Tuple [a, b] j2 tp2) p) (tS X cls Xw (denS C r))) : PS X (.Assign [.Tuple [.Name x px, .Name y py] j tp] (.Tuple [a, b] j2 tp2) p) (tS X cls Xw (denS C (if swap2 tc x y px py a b then (match slotOf? tc.N x, slotOf? tc.N y with
      | some i, some j => .par [i, j] [trE tc n a, trE tc n b]
      | _, _ => .stk) else r))) := by
  cases hc : swap2 tc x y px py a b with
  | false => exact hr
  | true =>
    rw [if_pos rfl]
    cases hi : slotOf? tc.N x with
    | none => exact ps_stk _
    | some i =>
      cases hj : slotOf? tc.N y with
      | none => exact ps_stk _
      | some l =>
        simp only
        have hc' := hc
        unfold swap2 at hc'
        simp only [Bool.and_eq_true, Bool.not_eq_true', beq_eq_false_iff_ne] at hc'
        obtain ⟨⟨⟨⟨⟨⟨⟨h1, h2⟩, _⟩, h4⟩, h5⟩, h6⟩, _⟩, _⟩ := hc'
        have hs : [a, b].any isStar = false := by simp [h5, h6]
        have hil : i ≠ l := fun z => h4 (by
          have e1 := slot_of T hi
          have e2 := slot_of T hj
          rw [z, e2] at e1
          exact (Option.some.inj e1).symm)
        refine (ps_par T.calm T.nd (slot_of T hi) (slot_of T hj) hil (T.lcl x h1) (T.lcl y h2) (pa_ws hs (goods_map E [a, b])) (swap2_ok T hc)).mono fun D σ H h => ?_
        refine tWs_imp (s_parW h) fun vs H1 ⟨hl, q⟩ => ?_
        match vs, hl, q with
        | [v, w], _, q => exact ⟨v, w, rfl, q⟩
theorem par3_ok (T : TcOk X cls C tc k) (n : Nat) (E : ∀ e, Good X cls (wE Xw) C e (trE tc n e)) {x y z : Str} {px py pz tp tp2 p : Pos} {j j2 : Nat} {a b c : Ex} {r : S} (hr : PS X (.Assign [.Tuple [.Name x px, .Name y py, .Name z pz] j tp] (.Tuple [a, b, c] j2 tp2) p) (tS X cls Xw (denS C r))) : PS X (.Assign [.Tuple [.Name x px, .Name y py, .Name z pz] j tp] (.Tuple [a, b, c] j2 tp2) p) (tS X cls Xw (denS C (if swap3 tc x y z px py pz a b c then (match slotOf? tc.N x, slotOf? tc.N y, slotOf? tc.N z with
      | some i, some j, some l => .par [i, j, l] [trE tc n a, trE tc n b, trE tc n c]
      | _, _, _ => .stk) else r))) := by
  cases hc : swap3 tc x y z px py pz a b c with
  | false => exact hr
  | true =>
    rw [if_pos rfl]
    cases hi : slotOf? tc.N x with
    | none => exact ps_stk _
    | some i =>
      cases hj : slotOf? tc.N y with
      | none => exact ps_stk _
      | some l =>
        cases hm : slotOf? tc.N z with
        | none => exact ps_stk _
        | some m =>
          simp only
          have hc' := hc
          unfold swap3 at hc'
          simp only [Bool.and_eq_true, Bool.not_eq_true', beq_eq_false_iff_ne] at hc'
          obtain ⟨⟨⟨⟨⟨⟨⟨⟨⟨⟨⟨⟨h1, h2⟩, h2'⟩, _⟩, _⟩, h4⟩, h4'⟩, h4''⟩, h5⟩, h6⟩, h6'⟩, _⟩, _⟩ := hc'
          have hs : [a, b, c].any isStar = false := by simp [h5, h6, h6']
          have ne : ∀ {u v : Str} {i j : Nat}, slotOf? tc.N u = some i → slotOf? tc.N v = some j → u ≠ v → i ≠ j := fun {u v i j} hu hv huv z => huv (by
            have e1 := slot_of T hu
            have e2 := slot_of T hv
            rw [z, e2] at e1
            exact (Option.some.inj e1).symm)
          refine (ps_par3 T.calm T.nd (slot_of T hi) (slot_of T hj) (slot_of T hm) (ne hi hj h4) (ne hi hm h4') (ne hj hm h4'') (T.lcl x h1) (T.lcl y h2) (T.lcl z h2') (pa_ws hs (goods_map E [a, b, c])) (swap3_ok T hc)).mono fun D σ H h => ?_
          refine tWs_imp (s_parW h) fun vs H1 ⟨hl, q⟩ => ?_
          match vs, hl, q with
          | [u, v, w], _, q => exact ⟨u, v, w, rfl, q⟩
theorem ps_tupG (T : TcOk X cls C tc k) (n : Nat) (E : ∀ e, Good X cls (wE Xw) C e (trE tc n e)) (ts : List Ex) (j : Nat) (tp : Pos) (e : Ex) (p : Pos) : PS X (.Assign [.Tuple ts j tp] e p) (tS X cls Xw (denS C (trTup tc (trE tc n) n ts j tp e))) := by
  unfold trTup
  cases ht : (isTup e && !swapNo tc ts) with
  | true => exact ps_stk _
  | false =>
    rw [if_neg (by decide)]
    cases hpt : trP tc n (.Tuple ts j tp) with
    | none => exact ps_stk _
    | some pt =>
      have hsw : swappedStores [.Tuple ts j tp] e X.env = pure none := by
        rw [Bool.and_eq_false_iff] at ht
        rcases ht with ht | ht
        · unfold swappedStores
          cases e <;> first | rfl | cases ht
        · exact swapNo_ok T (by simpa using ht) e
      exact (ps_asg (E e).fz (trP_ok T.N T.nd T.own T.calm n _ pt hpt) (comp_tup (X := X) (e := e) (ts := ts) (j := j) (p := tp) (l := p.line)) hsw rfl).mono fun D σ H h => s_setp h
theorem ps_tup (T : TcOk X cls C tc k) (n : Nat) (E : ∀ e, Good X cls (wE Xw) C e (trE tc n e)) (ts : List Ex) (j : Nat) (tp : Pos) (e : Ex) (p : Pos) : PS X (.Assign [.Tuple ts j tp] e p) (tS X cls Xw (denS C (trS tc (n + 1) (.Assign [.Tuple ts j tp] e p)))) := by
  generalize hst : Stmt.Assign [.Tuple ts j tp] e p = st
  unfold trS
  split
  all_goals first
    | (cases hst; done)
    | (cases hst; exact par2_ok T n E (ps_tupG T n E _ _ _ _ _))
    | (cases hst; exact par3_ok T n E (ps_tupG T n E _ _ _ _ _))
    | (cases hst; exact ps_tupG T n E _ _ _ _ _)
    | (cases hst; exact ps_stk _)
    | exact ps_stk _
theorem trS_ok (hp : PassesOwn (model X.prog X.w) X.A X.env X.xe) (tk : Takes X (wE Xw)) (T : TcOk X cls C tc k) : ∀ n, (∀ st, PS X st (tS X cls Xw (denS C (trS tc n st)))) ∧ ∀ sts, PSs X sts (tS X cls Xw (denSs C (trSs tc n sts)))
  | 0 => ⟨fun st => ps_stk st, fun sts => ⟨fun pins s σ H D I h => by
      obtain ⟨B, F, ρ, O, sx, r, ρ', hm, en⟩ := (show tS X cls Xw (M.bnd (denS C .stk) fun f => match f with | .nx => denSs C [] | f => M.ret f) D σ H from h)
      cases hm⟩⟩
  | n + 1 => by
    obtain ⟨ihS, ihL⟩ := trS_ok hp tk T n
    have E := fun e => (tr_ok n T).1 (wE Xw) tk e
    refine ⟨fun st => ?_, fun sts => ?_⟩
    · cases st with
      | Pass p => exact ps_pass.mono fun D σ H h => s_skip h
      | AugAssign tg op e p =>
        cases tg with
        | Name x xp =>
          cases op with
          | Add =>
            show PS X (.AugAssign (.Name x xp) .Add e p) (tS X cls Xw (denS C (match slotOf? tc.N x with | some i => if tc.own x then .aug i .add (trE tc n e) else .stk | none => .stk)))
            cases hi : slotOf? tc.N x with
            | none => exact ps_stk _
            | some i =>
              simp only
              cases ho : tc.own x with
              | false => exact ps_stk _
              | true =>
                rw [if_pos rfl]
                exact (ps_aug T.nd (slot_of T hi) (T.own x ho).1 (E e).fz ip_add (T.own x ho).2).mono fun D σ H h => s_aug (fun _ _ _ h => add_int h) h
          | Sub =>
            show PS X (.AugAssign (.Name x xp) .Sub e p) (tS X cls Xw (denS C (match slotOf? tc.N x with | some i => if tc.own x then .aug i .sub (trE tc n e) else .stk | none => .stk)))
            cases hi : slotOf? tc.N x with
            | none => exact ps_stk _
            | some i =>
              simp only
              cases ho : tc.own x with
              | false => exact ps_stk _
              | true =>
                rw [if_pos rfl]
                exact (ps_aug T.nd (slot_of T hi) (T.own x ho).1 (E e).fz ip_sub (T.own x ho).2).mono fun D σ H h => s_aug (fun _ _ _ h => sub_int h) h
          | _ => exact ps_stk _
        | _ => exact ps_stk _
      | Break p => exact ps_break.mono fun D σ H h => s_brk h
      | Continue p => exact ps_continue.mono fun D σ H h => s_cont h
      | Return v p =>
        cases v with
        | some e =>
          show PS X (.Return (some e) p) (tS X cls Xw (denS C (match retK tc e with | some (i, c) => .retD i (trE tc n c) | none => .ret (trE tc n e))))
          cases hk : retK tc e with
          | some ic => exact ps_retK T n E hk
          | none => exact (ps_ret (E e).fz).mono fun D σ H h => s_ret h
        | none =>
          refine ps_retN.mono fun D σ H h => ?_
          obtain ⟨B, F, ρ, O, s, r, ρ', hm, en⟩ := h
          have hm' : some ((R.ok (Fl.rt (W.val Py.D.non))), ρ) = some (r, ρ') := hm
          cases hm'
          exact en .non σ F H O [] (.rfl s) ⟨.non, rfl⟩ (fun b hb => (nomatch hb))
      | If c a b p => exact (ps_if (E c).fzt (ihL a) (ihL b)).mono fun D σ H h => s_iff h
      | While c a orelse p =>
        cases orelse with
        | nil => exact (ps_while hp (E c).fzt (ihL a)).mono fun D σ H h => s_whl h
        | cons _ _ => exact ps_stk _
      | For tg it a orelse p =>
        cases orelse with
        | cons _ _ => exact ps_stk _
        | nil =>
          show PS X (.For tg it a [] p) (tS X cls Xw (denS C (match trP tc n tg with | some p => (match drC tc it with | some i => .forC p i (trSs tc n a) | none => if isSet it then .stk else .for_ p (trI tc n tg it) (trSs tc n a)) | none => .stk)))
          cases hpt : trP tc n tg with
          | none => exact ps_stk _
          | some pt =>
            simp only
            cases hd : drC tc it with
            | some i => exact ps_forC T hp n pt hpt hd (ihL a)
            | none =>
            simp only
            cases hs : isSet it with
            | true => exact ps_stk _
            | false => exact (ps_for hp T.calm ((tr_ok n T).2 (wE Xw) tk tg it) (trP_ok T.N T.nd T.own T.calm n tg pt hpt) (ihL a) (fold_ok hs)).mono fun D σ H h => s_for h
      | Expr e p =>
        have dflt : ∀ e, isComp e = false → PS X (.Expr e p) (tS X cls Xw (denS C (.expr (trE tc n e)))) := fun e h => (ps_expr (E e).fz (comp_none h)).mono fun D σ H h => s_expr h
        have dflt2 : ∀ e, PS X (.Expr e p) (tS X cls Xw (denS C (if isComp e then .stk else .expr (trE tc n e)))) := fun e => by
          cases h : isComp e with
          | true => exact ps_stk _
          | false => exact dflt e h
        cases e with
        | Constant c j q =>
          cases c with
          | str z => exact ps_doc.mono fun D σ H h => s_skip h
          | _ => exact dflt2 _
        | Call f es kws cp =>
          cases f with
          | Attribute o m ap =>
            cases o with
            | Name x xp =>
              rcases es with _ | ⟨e, _ | ⟨e2, er⟩⟩
              · exact dflt2 _
              · cases kws with
                | cons _ _ => exact dflt2 _
                | nil =>
                  show PS X (.Expr (.Call (.Attribute (.Name x xp) m ap) [e] [] cp) p) (tS X cls Xw (denS C (if m == ("append" : Str) && ap.endLine == cp.line && !isStar e then (match slotX tc x with
                      | some i => .app i (trE tc n e)
                      | none => .stk)
                    else if m == ("extend" : Str) && ap.endLine == cp.line && !isStar e then (match slotX tc x with
                      | some i => .ext i (trE tc n e)
                      | none => .stk)
                    else if m == ("update" : Str) && ap.endLine == cp.line && !isStar e then (match slotX tc x with
                      | some i => .upd i (trE tc n e)
                      | none => .stk)
                    else .expr (trE tc n (.Call (.Attribute (.Name x xp) m ap) [e] [] cp)))))
                  by_cases c1 : (m == ("append" : Str) && ap.endLine == cp.line && !isStar e) = true
                  · rw [if_pos c1]
                    obtain ⟨a1, a2, a3⟩ := and3 c1
                    have hm : m = "append" := by simpa using a1
                    subst hm
                    cases hs : slotX tc x with
                    | none => exact ps_stk _
                    | some i => exact (ps_ms (slotX_ok T hs) PySem.F.plainAttrs_list PySem.F.slot_list_append PySem.F.type_list_append mt_append a2 (by simpa using a3) (E e).fz).mono fun D σ H h => s_app h
                  · rw [if_neg c1]
                    by_cases c2 : (m == ("extend" : Str) && ap.endLine == cp.line && !isStar e) = true
                    · rw [if_pos c2]
                      obtain ⟨a1, a2, a3⟩ := and3 c2
                      have hm : m = "extend" := by simpa using a1
                      subst hm
                      cases hs : slotX tc x with
                      | none => exact ps_stk _
                      | some i => exact (ps_ms (slotX_ok T hs) PySem.F.plainAttrs_list PySem.F.slot_list_extend PySem.F.type_list_extend mt_extend a2 (by simpa using a3) (E e).fz).mono fun D σ H h => s_ext h
                    · rw [if_neg c2]
                      by_cases c3 : (m == ("update" : Str) && ap.endLine == cp.line && !isStar e) = true
                      · rw [if_pos c3]
                        obtain ⟨a1, a2, a3⟩ := and3 c3
                        have hm : m = "update" := by simpa using a1
                        subst hm
                        cases hs : slotX tc x with
                        | none => exact ps_stk _
                        | some i => exact (ps_ms (slotX_ok T hs) PySem.F.plainAttrs_dict PySem.F.slot_dict_update PySem.F.type_dict_update mt_upd a2 (by simpa using a3) (E e).pe).mono fun D σ H h => s_upd h
                      · rw [if_neg c3]
                        exact dflt _ rfl
              · cases kws <;> exact dflt2 _
            | _ => exact dflt2 _
          | _ => exact dflt2 _
        | _ => exact dflt2 _
      | Assign ts e p =>
        rcases ts with _ | ⟨t, _ | ⟨t2, tr⟩⟩
        · exact ps_stk _
        · cases t with
          | Name x xp =>
            show PS X (.Assign [.Name x xp] e p) (tS X cls Xw (denS C (match slotOf? tc.N x, swapB tc x xp e with
              | some i, some _ => if tc.own x then .set i (trE tc n e) else .stk
              | _, _ => .stk)))
            cases hs : slotOf? tc.N x with
            | none => exact ps_stk _
            | some i =>
              cases hb : swapB tc x xp e with
              | none => exact ps_stk _
              | some b =>
                simp only
                cases ho : tc.own x with
                | false => exact ps_stk _
                | true =>
                  obtain ⟨hl, hfn⟩ := T.own x ho
                  have plain : ∀ e, swapsWith e (some (.Name x xp)) p.line X.env = pure false → PS X (.Assign [.Name x xp] e p) (tS X cls Xw (denS C (.set i (trE tc n e)))) := fun e h =>
                    (ps_set T.nd (slot_of T hs) hl (E e).pe h hfn).mono fun D σ H h => s_set h
                  cases hc : isComp e with
                  | false => exact plain e (comp_name hc)
                  | true =>
                    cases e with
                    | ListComp elt gs sc lp =>
                      have hb' : (tc.lcl x && xp.line == lp.line && !(sc.names.any fun (n, k) => n == x && (k == .local || k == .cell))) = b := Option.some.inj hb
                      have hsw : swapsWith (.ListComp elt gs sc lp) (some (.Name x xp)) p.line X.env = pure b := by
                        have hbk : X.env.blockKind = .function := by unfold Env.blockKind; rw [T.kind]; rfl
                        show (pure (X.env.blockKind == .function && X.env.kindOf x == some .local && xp.line == lp.line && !(sc.names.any fun (n, k) => n == x && (k == .local || k == .cell))) : Sem Bool) = pure b
                        have hkx : (X.env.kindOf x == some .local) = tc.lcl x := by
                          cases q : tc.lcl x with
                          | true =>
                            have : X.env.kindOf x = some .local := T.lcl x q
                            rw [this]; rfl
                          | false =>
                            have : ¬ X.env.kindOf x = some .local := T.oth x q
                            simpa using this
                        rw [hbk, hkx, ← hb']
                        rfl
                      cases b with
                      | false => exact plain _ hsw
                      | true =>
                        cases n with
                        | zero => exact ps_set_stk _ i
                        | succ n =>
                          rcases lc_parts tk n T elt gs sc lp with e0 | ⟨tg, iter, ifs, own, wi, g, tt, te, rfl, hi, ok, hg, ht, he, hf, hq⟩
                          · rw [e0]
                            exact ps_set_stk _ i
                          · exact (ps_setLc T.calm T.nd (slot_of T hs) (T.lcl x (lcl_of hb')) hsw hi ok hg ht he hf).mono fun D σ H h => hq σ H _ (s_set h)
                    | SetComp _ _ _ _ => cases hb
                    | DictComp _ _ _ _ _ => cases hb
                    | _ => cases hc
          | Tuple ts j tp => exact ps_tup T n E ts j tp e p
          | Attribute o f ap =>
            cases o with
            | Name x xp =>
              show PS X (.Assign [.Attribute (.Name x xp) f ap] e p) (tS X cls Xw (denS C (match slotX tc x with | some i => .setf i f (trE tc n e) | none => .stk)))
              cases hs : slotX tc x with
              | none => exact ps_stk _
              | some i => exact (ps_fld (slotX_ok T hs) (E e).fz comp_attr).mono fun D σ H h => s_setf (fun c hc => T.flds c f hc) h
            | _ => exact ps_stk _
          | Subscript o b q =>
            show PS X (.Assign [.Subscript o b q] e p) (tS X cls Xw (denS C (match drK tc o b with | some (i, z) => .drS i z (trE tc n e) | none => (match o with
              | .Name x _ => (match slotX tc x with | some i => .seti i (trE tc n b) (trE tc n e) | none => .stk)
              | _ => .stk))))
            cases hd : drK tc o b with
            | none =>
              cases o with
              | Name x xp =>
                simp only
                cases hs : slotX tc x with
                | none => exact ps_stk _
                | some i =>
                  have hu := room_units T
                  exact (ps_dput (by omega) (slotX_ok T hs) (E b).fz (E e).fz comp_sub).mono fun D σ H h => s_seti h
              | _ => exact ps_stk _
            | some iz => exact ps_drS T hd (E e)
          | _ => exact ps_stk _
        · generalize hst : Stmt.Assign (t :: t2 :: tr) e p = st
          unfold trS
          split
          all_goals first
            | (cases hst; done)
            | exact ps_stk _
            | (cases hst; exact ps_stk _)
      | Raise e c p =>
        generalize hst : Stmt.Raise e c p = st
        unfold trS
        split
        all_goals first
          | (cases hst; done)
          | exact ps_stk _
          | (cases hst
             rename_i x _ es _
             cases hx : tc.xcs.lookup x with
             | none => exact ps_stk _
             | some c =>
               simp only
               cases h4 : (okN x && tc.glo x && !es.any isStar) with
               | false => exact ps_stk _
               | true =>
                 rw [if_pos rfl]
                 simp only [Bool.and_eq_true] at h4
                 exact ps_rsx T.calm tk h4.1.1 (T.glo x h4.1.2) (T.room.rm.mono (Nat.succ_le_succ (Nat.zero_le _))) (T.xcs x c hx) (by simpa using h4.2) (goods_map E es))
      | _ => exact ps_stk _
    · cases sts with
      | nil => exact pss_nil.mono fun D σ H h => s_nil h
      | cons st r => exact (pss_cons (ihS st) (ihL r)).mono fun D σ H h => s_seq h
end
end Py
set_option Elab.async false
set_option linter.all false
set_option maxRecDepth 100000
set_option maxHeartbeats 8000000
/-! PyG: a def does what its translation computes; all defs of a program. -/
namespace Py
open PySem PySem.Spec L2 PySem.SeqAt PyProof.Rows
variable {Xw : XK}
/-- where the in-out arguments stand -/
inductive JR : List Bool → List (Addr × List Addr) → IoJ → Prop where
  | nil : JR [] [] []
  | val {bs : List Bool} {ios : List (Addr × List Addr)} {J : IoJ} : JR bs ios J → JR (false :: bs) ios (none :: J)
  | io {bs : List Bool} {q : Addr × List Addr} {ios : List (Addr × List Addr)} {J : IoJ} : JR bs ios J → JR (true :: bs) (q :: ios) (some q :: J)
theorem JR.mem {bs : List Bool} {ios : List (Addr × List Addr)} {J : IoJ} (h : JR bs ios J) : ∀ p fp, some (p, fp) ∈ J ↔ (p, fp) ∈ ios := by
  induction h with
  | nil => intro p fp; simp
  | val _ ih => intro p fp; rw [List.mem_cons, ih]; simp
  | io _ ih => intro p fp; rw [List.mem_cons, List.mem_cons, ih]; simp
section
variable {Z : Wd} {F H : Hp}
theorem rest_un {H0 F H : Hp} : ∀ n : Nat, SlR Z H0 F H (List.replicate n none) (List.replicate n .un) (List.replicate n none) []
  | 0 => .nil
  | n + 1 => .un (rest_un n)
/-- the frame at a def's entry -/
theorem entry (n : Nat) : ∀ {bs : List Bool} {args : List Arg} {vs : List VV} {ios : List (Addr × List Addr)} {ρ : List Slot}, slots bs args = some ρ → ArgR Z F H vs args ios →
    ∃ J O, JR bs ios J ∧ ρ.length = vs.length ∧ SlR Z H F H (vs.map some ++ List.replicate n none) (ρ ++ List.replicate n .un) (J ++ List.replicate n none) O ∧ ∀ b ∈ O, ∃ q ∈ ios, b ∈ q.2
  | [], [], vs, ios, ρ, h, a => by
    cases h
    cases a
    exact ⟨[], [], .nil, rfl, rest_un n, fun b hb => nomatch hb⟩
  | [], _ :: _, vs, ios, ρ, h, a => by cases h
  | _ :: _, [], vs, ios, ρ, h, a => by cases h
  | b :: bs, x :: xs, vs, ios, ρ, h, a => by
    have h' : (match slotOf b x, slots bs xs with | some x, some xs => some (x :: xs) | _, _ => none) = some ρ := h
    cases e1 : slotOf b x with
    | none => rw [e1] at h'; cases h'
    | some s =>
      cases e2 : slots bs xs with
      | none => rw [e1, e2] at h'; cases h'
      | some r =>
        rw [e1, e2] at h'
        cases h'
        cases a with
        | val rp ar =>
          obtain ⟨J, O, j, l, sl, m⟩ := entry n e2 ar
          cases b with
          | true => cases e1
          | false =>
            cases e1
            exact ⟨none :: J, O, .val j, by simp [l], .val rp sl, m⟩
        | @io p fp o vs as ios ow dj ar =>
          obtain ⟨J, O, j, l, sl, m⟩ := entry n e2 ar
          cases b with
          | false => cases e1
          | true =>
            cases e1
            refine ⟨some (p, fp) :: J, fp ++ O, .io j, by simp [l], .io ow (fun b hb z => ?_) sl, fun b hb => ?_⟩
            · obtain ⟨q, hq, hb2⟩ := m b z
              exact dj b hb q hq hb2
            · rcases List.mem_append.mp hb with hb | hb
              · exact ⟨(p, fp), List.mem_cons_self, hb⟩
              · obtain ⟨q, hq, hb2⟩ := m b hb
                exact ⟨q, List.mem_cons_of_mem _ hq, hb2⟩
/-- the in-out arguments at its end -/
theorem ends {H0 F' H' : Hp} : ∀ {bs : List Bool} {ios : List (Addr × List Addr)} {J J2 : IoJ} {σ : Sg} {ρ : Env} {O : List Addr} {os : List Ob}, JR bs ios J → SlR Z H0 F' H' σ ρ (J ++ J2) O → backsOf bs ρ = some os → BackR Z F' H' ios os
  | [], ios, J, J2, σ, ρ, O, os, j, sl, h => by
    cases j
    have h' : some ([] : List Ob) = some os := by cases ρ <;> exact h
    cases h'
    exact .nil
  | false :: bs, ios, J, J2, σ, ρ, O, os, j, sl, h => by
    cases j with
    | val j =>
      cases sl with
      | un sl => exact ends j sl h
      | val _ sl => exact ends j sl h
      | own _ _ _ sl => exact ends j sl h
  | true :: bs, ios, J, J2, σ, ρ, O, os, j, sl, h => by
    cases j with
    | io j =>
      cases sl with
      | @io p fp o σ ρ J O ow dj sl =>
        obtain ⟨r, hr, rfl⟩ := Option.map_eq_some_iff.mp (show (backsOf bs ρ).map (o :: ·) = some os from h)
        exact .cons ow (ends j sl hr)
/-- a body that runs keeps the promise -/
theorem body_ok {C : Cfg} {f : Fn} {vs : List VV} {Q : VK} {E : XK} {N : List Str} (hN : f.slots = N.length) (h : spF Z (runFn C f) vs H Q E) (hle : vs.length ≤ N.length) : tSt Z E (denSs C f.body) { nx := fun _ H' => Q .non H', rt := Q } (start N vs) H := by
  obtain ⟨F, args, ios, g, os, fh, tabs, ar, hr, cont⟩ := h
  unfold runFn at hr
  cases e1 : slots f.pars args with
  | none => rw [e1] at hr; cases hr
  | some ρ0 =>
    rw [e1] at hr
    simp only at hr
    obtain ⟨J, O, j, l, sl, m⟩ := entry (N.length - vs.length) e1 ar
    have hlen : f.slots - ρ0.length = N.length - vs.length := by rw [hN, l]
    rw [hlen] at hr
    let B : Base := ⟨F, H, J ++ List.replicate (N.length - vs.length) none, []⟩
    have sx : Sx Z B F H (start N vs) (ρ0 ++ List.replicate (N.length - vs.length) .un) O := ⟨fh, Sub.rfl, fun _ _ _ e _ => e, tabs, fun P ps e => ⟨ps, e⟩, fun b h1 h2 => absurd h2 h1, sl, fun b hb => nomatch hb⟩
    have fin : ∀ {σ' F' H' ρ' O'} {os' : List Ob}, StpS Z B (start N vs) F H O σ' F' H' ρ' O' → backsOf f.pars ρ' = some os' → FinR Z F H F' H' ios os' := by
      intro σ' F' H' ρ' O' os' st hb
      refine ⟨st.ff, st.sx.fh, fun b o n e n1 => st.sx.h0 b o (fun p fp hp => ?_) e n1, fun b h1 h2 => st.sx.fn b h1 h2, ends j st.sx.sl hb, st.sx.tb, st.sx.ht⟩
      rcases List.mem_append.mp hp with hp | hp
      · exact n _ ((j.mem p fp).mp hp)
      · have := List.eq_of_mem_replicate hp
        cases this
    cases e2 : denSs C f.body (ρ0 ++ List.replicate (N.length - vs.length) .un) with
    | none => rw [e2] at hr; cases hr
    | some pr =>
      obtain ⟨r, ρ'⟩ := pr
      rw [e2] at hr
      refine ⟨B, F, _, O, sx, r, ρ', e2, ?_⟩
      cases r with
      | ex x =>
        obtain ⟨os', hb, e⟩ := Option.map_eq_some_iff.mp (show (backsOf f.pars ρ').map (fun os => (⟨.ex x, os⟩ : Res)) = some ⟨g, os⟩ from hr)
        cases e
        exact fun cl dx σ' F' H' O' st xr => cont cl dx F' H' (fin st hb) xr
      | ok fl =>
        cases fl with
        | rt d =>
          obtain ⟨os', hb, e⟩ := Option.map_eq_some_iff.mp (show (backsOf f.pars ρ').map (fun os => (⟨.ok d, os⟩ : Res)) = some ⟨g, os⟩ from hr)
          cases e
          refine fun v σ' F' H' O' fp st rv nw => cont v F' H' fp (fin st hb) rv fun b hb => (nw b hb).1.elim id fun z => ?_
          obtain ⟨⟨p, fp'⟩, hq, hb2⟩ := m b z
          exact absurd (st.sx.sl.ios p fp' (List.mem_append_left _ ((j.mem p fp').mpr hq)) b hb2) (nw b hb).2
        | nx =>
          obtain ⟨os', hb, e⟩ := Option.map_eq_some_iff.mp (show (backsOf f.pars ρ').map (fun os => (⟨.ok (.val .non), os⟩ : Res)) = some ⟨g, os⟩ from hr)
          cases e
          exact fun σ' F' H' O' st => cont .non F' H' [] (fin st hb) ⟨.non, rfl⟩ (fun b hb => nomatch hb)
        | bk => cases hr
        | ct => cases hr
end
end Py
set_option Elab.async false
set_option linter.all false
set_option maxRecDepth 100000
set_option maxHeartbeats 400000
/-! PyH: all defs of a program at once. -/
namespace Py
open PySem PySem.Spec L2 PySem.SeqAt PyProof.Rows
section
variable (P : Program) (w : World) (K : PySem.W.Frag) (mg : Str → Option Value) (base : Heap) (cls : Nm) (Pg : Prog) (ad : Nat → Addr) (fd : Nat → FuncData) (ps : Nat → List Str)
/-- the arguments by position bind -/
def PosB (f : Nat) : Prop := ∀ (s : Shared) (us : List Value), K.In s.heap → us.length = (ps f).length → BindsTo s (fd f) ⟨us, []⟩ ((ps f).zip us)
/-- what the module's names are -/
structure Glb (t : Tc) : Prop where
  free : ∀ x, t.blt.contains x = true → mg x = none
  gls : ∀ x g d, t.gls.lookup x = some g → Pg.glob g = some d → ∃ v u, mg x = some u ∧ RelV v u ∧ ∀ F, Rp ⟨K, w, cls⟩ F v d
  fns : ∀ x f p ios, t.fns.lookup x = some (f, p, ios) → p = ps f ∧ mg x = some (.ref (ad f)) ∧ PySem.W.keepIn K (.ref (ad f)) = true ∧ PosB K fd ps f ∧
    ∀ np, np ≤ p.length → t.kws.any (· == (x, np)) = true → ∀ (s : Shared) (us ws : List Value), K.In s.heap → us.length = np → ws.length = (p.drop np).length → BindsTo s (fd f) ⟨us, (p.drop np).zip ws⟩ (p.zip (us ++ ws))
  kwp : ∀ x f p ios, t.fns.lookup x = some (f, p, ios) → ∀ np ks pm, t.kwpAt x np ks = some pm → np + ks.length = p.length ∧ ∀ (s : Shared) (us ws : List Value), K.In s.heap → us.length = np → ws.length = ks.length → BindsTo s (fd f) ⟨us, ks.zip ws⟩ (p.zip (permL pm (us ++ ws))) ∧ (permL pm (us ++ ws)).length = p.length
  mks : ∀ x c m, t.cls.lookup x = some (c, m) → mg x = some (.ref (cls c)) ∧ ∃ f, Pg.init c = some f ∧ Mk K (cls c) (ad f) ∧ (ps f).length = m + 1 ∧ PosB K fd ps f
  mts : ∀ m, t.mts.contains m = true → ∀ c f, Pg.meth c m = some f → Cls K (cls c) ∧ Meth K (cls c) m (ad f) ∧ (ps f).length = Pg.arity f ∧ PosB K fd ps f
  flds : ∀ c f, Pg.flds c f = true → Cls K (cls c) ∧ NoAttr K (cls c) f
  xcs : ∀ x c, t.xcs.lookup x = some c → XkOk P K mg Pg.xfl x (cls c) c
  xvl : ∀ k b, Pg.xval k = some b → ExcC K (cls k) ∧ PySem.W.kitOne K (.ref (cls k)) (.type "ValueError") = some b
  xfd : ∀ c fs f, Pg.xfl c = some fs → f ∈ fs → XfC K (cls c) ∧ NoAttr K (cls c) f
  sm : (K.lookup sysModules).isSome = true
  xsb : ∀ k c b, Pg.xsub k c = some b → ExcC K (cls k) ∧ PySem.W.kitOne K (.ref (cls k)) (.ref (cls c)) = some b
  ler : ∃ CS, (∀ x, t.ler.contains x = true → LerOk K mg CS x) ∧ ∀ c, Pg.caught c = true → PySem.W.exmOne K (.ref (cls c)) (.ref CS) = some true
/-- a def that makes lambdas -/
def LamAt (qual : Str) (cdv : Value) : Prop := ∃ (c P : Addr) (q : Str), cdv = .ref c ∧ LamX.TabB base mg c P ∧ (qual ++ ".<locals>.") ++ "<lambda>" = q ∧ (P, q) ∈ cls.T ∧ ∀ p ∈ cls.T, p.1 = P → p.2 = q
/-- a def that is translated -/
structure DefOk (t : Tc) (f : Nat) (g : Fn) : Prop where
  is : ∃ (name qual : Str) (params : Arguments) (body : List Stmt) (scope : Scope) (dV kV doc pm cdv ct oc : Value) (an od : Option Addr) (osl : Array (Option Value)) (N : List Str) (n : Nat) (lb : Bool),
    K.lookup (ad f) = some ⟨oc, od, .func (PySem.W.fnOf name qual params body scope dV kV doc pm an cdv ct), osl⟩ ∧ PySem.W.codeIn K cdv qual = true ∧ FnScope N (ps f) scope ∧
    fd f = PySem.W.fnOf name qual params body scope dV kV doc pm an cdv ct ∧ g.slots = N.length ∧ g.body = trSs { t with N := N, sc := scope, lam := lb } n body ∧ (lb = true → LamAt mg base cls qual cdv)
end
section
variable {P : Program} {w : World} {K : PySem.W.Frag} {mg : Str → Option Value} {base : Heap} {cls : Nm} {Pg : Prog} {ad : Nat → Addr} {fd : Nat → FuncData} {ps : Nat → List Str} {t : Tc}
abbrev cfgOf (Pg : Prog) (m : Nat) : Cfg := ⟨evalN Pg m, Pg.glob, Pg.meth, Pg.flds, Pg.init, Pg.arity, Pg.loops, Pg.xsub, Pg.xval, Pg.xfl, Pg.caught, decide (Pg.lam0 ≤ m)⟩
/-- the room that m levels want -/
def lv (Pg : Prog) (m : Nat) : Nat := 2 * m + 2 * (m - Pg.lam0)
theorem tc_of {k m : Nat} (G : Glb P w K mg cls Pg ad fd ps t) (ih : ∀ f, FnG P w K mg base k (ad f) (fd f) (ps f) (spF ⟨K, w, cls⟩ (evalN Pg m f))) {N : List Str} {pp : List Str} {scope : Scope} (S : FnScope N pp scope) {qual : Str} {f : Addr} {cd : Value} {A : Around} {outer : List PySem.Env} {s : Shared} {H : Hp} {E : XK} (hr : RoomG (k + 1) (A.deeper (envOfC qual scope s.heap.objs.size f cd))) {lb : Bool} (hlb : lb = true → decide (Pg.lam0 ≤ m) = true → RoomG (k + 3) (A.deeper (envOfC qual scope s.heap.objs.size f cd)) ∧ LamAt mg base cls qual cd) :
    TcOk (cxOf (L2.CX P w) P w K mg base N qual scope f cd A outer s H E) cls (cfgOf Pg m) { t with N := N, sc := scope, lam := lb } k where
  N := rfl
  nd := S.nd
  loc := fun x h => by
    have h' : (match scope.names.lookup x with | some .local => true | some .cell => true | some .free => true | _ => false) = true := h
    show Vis scope x
    unfold Vis
    split at h'
    · exact .inl (by assumption)
    · exact .inr (.inl (by assumption))
    · exact .inr (.inr (by assumption))
    · cases h'
  glo := fun x h => by
    have h' : (match scope.names.lookup x with | some .globalImplicit => true | _ => false) = true := h
    show scope.names.lookup x = _
    split at h'
    · assumption
    · cases h'
  own := fun x h => by
    have h' : (match scope.names.lookup x with | some .local => true | some .cell => true | _ => false) = true := h
    show (scope.names.lookup x = _ ∨ scope.names.lookup x = _) ∧ (true = true ∨ scope.names.lookup x = _)
    split at h'
    · exact ⟨.inl (by assumption), .inl rfl⟩
    · exact ⟨.inr (by assumption), .inl rfl⟩
    · cases h'
  lcl := fun x h => by
    have h' : (match scope.names.lookup x with | some .local => true | _ => false) = true := h
    show scope.names.lookup x = _
    split at h'
    · assumption
    · cases h'
  oth := fun x h e => by
    have h' : (match scope.names.lookup x with | some .local => true | _ => false) = false := h
    have e' : scope.names.lookup x = some .local := e
    rw [e'] at h'
    cases h'
  fre := fun x h => h
  kind := S.kind
  calm := rfl
  room := hr
  free := G.free
  gls := G.gls
  fns := fun x f p ios h => by
    have hkp := G.kwp x f p ios h
    obtain ⟨rfl, hm, hk, hb, hkw⟩ := G.fns x f p ios h
    refine ⟨ad f, fd f, hm, hk, ih f, fun np hnp hor s us ws hK hu hw => ?_, hkp⟩
    rcases hor with e | e
    · subst e
      have hz : ws = [] := by
        rw [List.drop_length] at hw
        exact List.length_eq_zero_iff.mp hw
      subst hz
      rw [List.drop_length, List.append_nil]
      exact hb s us hK hu
    · exact hkw np hnp e s us ws hK hu hw
  mks := fun x c m h => by
    obtain ⟨hm, f, hi, hM, hl, hb⟩ := G.mks x c m h
    exact ⟨hm, f, ad f, fd f, ps f, hi, hM, ih f, hl, hb⟩
  mts := fun m hm c f h => by
    obtain ⟨hc, hM, hl, hb⟩ := G.mts m hm c f h
    exact ⟨ad f, fd f, ps f, hc, hM, hl, ih f, hb⟩
  flds := G.flds
  sm := G.sm
  xcs := G.xcs
  xvl := G.xvl
  xfd := G.xfd
  xsb := G.xsb
  lam := fun h1 h2 => by
    have h0 := hlb h1 h2
    obtain ⟨h3, c, P, q, e1, TB, eq, hm, hu⟩ := h0
    obtain ⟨CS, h4, h5⟩ := G.ler
    refine ⟨c, P, CS, q, qual ++ ".<locals>.", h3, ?_, e1, TB, ?_, ?_, hm, hu, ?_, h5⟩
    · exact Eq.refl scope
    · exact Eq.refl _
    · exact eq
    · exact h4
theorem all_ok {c0 : Nat} (G : Glb P w K mg cls Pg ad fd ps t) (defs : ∀ f g, Pg.fn f = some g → DefOk K mg base cls ad fd ps t f g) (hand : ∀ f, Pg.fn f = none → FnG P w K mg base c0 (ad f) (fd f) (ps f) (spF ⟨K, w, cls⟩ (Pg.hand f))) :
    ∀ m f, FnG P w K mg base (lv Pg m + c0) (ad f) (fd f) (ps f) (spF ⟨K, w, cls⟩ (evalN Pg m f))
  | 0, f => fun A outer s H args us vs Q E hr e0 hl hb r hsp => by
    obtain ⟨F, args, ios, g, os, _, _, _, hr, _⟩ := hsp
    cases hr
  | m + 1, f => by
    have ih := all_ok G defs hand m
    cases hf : Pg.fn f with
    | none =>
      have e : evalN Pg (m + 1) f = Pg.hand f := by
        funext args
        show (match Pg.fn f with | some fn => runFn _ fn args | none => Pg.hand f args) = _
        rw [hf]
      rw [e]
      exact (hand f hf).mono (Nat.le_add_left _ _)
    | some g =>
      have e : evalN Pg (m + 1) f = runFn (cfgOf Pg m) g := by
        funext args
        show (match Pg.fn f with | some fn => runFn _ fn args | none => Pg.hand f args) = _
        rw [hf]
      rw [e]
      obtain ⟨name, qual, params, body, scope, dV, kV, doc, pm, cdv, ct, oc, an, od, osl, N, n, lb, lk, hcd, S, hfd, hN, hbody, hlb⟩ := (defs f g hf).is
      rw [hfd]
      have hpl : (ps f).length ≤ N.length := by
        have := congrArg List.length S.pre
        rw [List.length_take] at this
        omega
      obtain ⟨kk, lvl, l1, l2⟩ : ∃ kk, lv Pg (m + 1) + c0 = kk + 1 ∧ lv Pg m + c0 + 1 ≤ kk ∧ (Pg.lam0 ≤ m → lv Pg m + c0 + 3 ≤ kk) := by
        unfold lv
        exact ⟨2 * m + 2 * (m + 1 - Pg.lam0) + c0 + 1, by omega, by omega, fun h => by omega⟩
      rw [lvl]
      refine FnG.of lk hcd S fun A outer s H vs Q E hr hvl hsp => ?_
      have T := tc_of (base := base) G ih S (f := ad f) (cd := cdv) (outer := outer) (H := H) (E := E) (hr.mono l1) (lb := lb) fun h1 h2 => ⟨hr.mono (l2 (of_decide_eq_true h2)), hlb h1⟩
      refine ⟨_, (trS_ok (passes_of rfl) (takes_of rfl rfl rfl rfl) T n).2 body, ?_⟩
      have := body_ok hN hsp (by rw [hvl]; exact hpl)
      rw [hbody] at this
      exact this
end
end Py
set_option Elab.async false
set_option linter.all false
set_option maxRecDepth 100000
set_option maxHeartbeats 8000000
/-! PyZ: the end of a law's row. -/
namespace Py
open PySem PySem.Spec L2 PySem.SeqAt PyProof.Rows
/-- the script alone -/
def scrF (a : Addr) (vs : List Value) (ns : List Int) : Hp := fun b => if b = a then some (.frz { cls := .type "list", data := .seq vs.toArray } (.lst (ns.map L2.V.int))) else none
theorem scrF_sub {a : Addr} {vs : List Value} {ns : List Int} {T : Hp} : Sub (scrF a vs ns) (fun b => if b = a then some (.frz { cls := .type "list", data := .seq vs.toArray } (.lst (ns.map L2.V.int))) else T b) := fun b o z => by
  unfold scrF at z
  by_cases hb : b = a
  · rw [if_pos hb] at z
    show (if b = a then _ else _) = _
    rw [if_pos hb]
    exact z
  · rw [if_neg hb] at z
    cases z
theorem law_callGT {P : Program} {w : World} {K : PySem.W.Frag} {mg mb : Str → Option Value} {k : Nat} {fa a : Addr} {cs : List (Addr × Addr)} {fd : FuncData} {x : Str} {sp : List VV → Hp → VK → XK → Prop} {s₁ : Shared} {vs : List Value} {ns : List Int}
    (KX : K.In s₁.heap) (hns : s₁.heap.Ns mainGlobals mg) (hb : s₁.heap.Ns builtinsNs mb) (hbb : ∀ x : Str, x ≠ "__name__" → mb x = bootBuiltins x) (hlim : s₁.heap.NoLimit) (hg : s₁.gens = #[])
    (hT : ∀ p ∈ cs, s₁.heap.get? p.2 = some { cls := .none, data := .fields #[] }) (nT : ∀ p ∈ cs, K.lookup p.2 = none) (C : ∀ p ∈ cs, PySem.W.CodeHd s₁.heap p.1 p.2)
    (hbm : ∃ (bm : Addr) (ob : Obj), mg "__builtins__" = some (.ref bm) ∧ bm ≠ builtinsNs ∧ s₁.heap.get? bm = some ob ∧ ob.cls = .type "module" ∧ ob.dict = some builtinsNs ∧ ob.data = .plain)
    (ha : s₁.heap.get? a = some { cls := .type "list", data := .seq vs.toArray }) (hi : IntsAre vs ns) (hl : ns.length ≤ sizeLine) (hr : RoomG k callerA)
    (F : ∀ base : Heap, K.In base → base.Ns mainGlobals mg → (∀ p ∈ cs, LamX.TabB base mg p.1 p.2) → FnG P w K mg base k fa fd [x] sp) (hbind : ∀ (s : Shared) (u : Value), BindsTo s fd ⟨[u], []⟩ [(x, u)])
    (hsp : ∀ H : Hp, (∀ p ∈ cs, H p.2 = some (.tbl #[])) → (∃ F0 : Hp, Sub F0 H ∧ (∀ p ∈ cs, F0 p.2 = none) ∧ ScrR K F0 a ns) → sp [.ref a] H (fun v _ => v = .bl true) fun _ _ _ => False) :
    codeAny (model P w) callerA (.call (.ref fa) ⟨[.ref a], []⟩) (fun r s' => r = .ok (.ret (.bool true)) ∧ OldK s₁.heap s'.heap ∧ s'.os = s₁.os ∧ AllBare s'.gens) s₁ := by
  have rv := vals_ints hi
  have lenV := hi.length
  have isT : ∀ b : Addr, b ∈ cs.map (·.2) → s₁.heap.get? b = some { cls := .none, data := .fields #[] } := fun b hb => by
    obtain ⟨p, hp, e⟩ := List.mem_map.mp hb
    rw [← e]
    exact hT p hp
  have aT : a ∉ cs.map (·.2) := fun z => by
    have q := isT a z
    rw [ha] at q
    have z' : Data.seq vs.toArray _ = Data.fields #[] := congrArg Obj.data (Option.some.inj q)
    cases z'
  have memT : ∀ p ∈ cs, p.2 ∈ cs.map (·.2) := fun p hp => List.mem_map.mpr ⟨p, hp, rfl⟩
  -- from an abstract heap in which nothing but the script and the tables may be tracked
  have core : ∀ H : Hp, (∀ p ∈ cs, H p.2 = some (.tbl #[])) → (∀ b, H b = none ∨ b ∈ cs.map (·.2) ∨ ∃ o xs, H b = some (.frz o (.lst xs))) → (∃ F0 : Hp, Sub F0 H ∧ (∀ p ∈ cs, F0 p.2 = none) ∧ ScrR K F0 a ns) → HOk P w H s₁.heap → (∀ b, H b ≠ none → b = a ∨ b ∈ cs.map (·.2)) → (H a ≠ none → K.lookup a = none) →
      codeAny (model P w) callerA (.call (.ref fa) ⟨[.ref a], []⟩) (fun r s' => r = .ok (.ret (.bool true)) ∧ OldK s₁.heap s'.heap ∧ s'.os = s₁.os ∧ AllBare s'.gens) s₁ := by
    intro H hH hO hS hok hA hK
    have base_of : ∀ {b : Addr} {o : Obj}, s₁.heap.get? b = some o → H b = none → (hidT s₁.heap H).get? b = some o := fun e n => hidT_get e n
    have noD : ∀ {b : Addr} {o : Obj}, s₁.heap.get? b = some o → (∀ vs n, o.data ≠ .seq vs n) → o.data ≠ .fields #[] → H b = none := fun {b o} e h1 h2 => by
      cases q : H b with
      | none => rfl
      | some u =>
        rcases hA b (by rw [q]; simp) with e' | e'
        · rw [e', ha] at e
          cases e
          exact (h1 _ _ rfl).elim
        · rw [isT b e'] at e
          cases e
          exact (h2 rfl).elim
    have noA : ∀ {b : Addr} {o : Obj} {es : Array DictEntry} {ep : Nat}, s₁.heap.get? b = some o → o.data = .dict es ep → H b = none := fun {b o es ep} e d => by
      refine noD e (fun vs n z => ?_) fun z => ?_
      · rw [d] at z
        cases z
      · rw [d] at z
        cases z
    have nsK : ∀ {b : Addr} {m : Str → Option Value}, s₁.heap.Ns b m → (hidT s₁.heap H).Ns b m := fun {b m} ⟨o, es, ep, e, d, r⟩ => ⟨o, es, ep, base_of e (noA e d), d, r⟩
    have hKb : K.In (hidT s₁.heap H) := fun b o e => base_of (KX b o e) (by
      cases q : H b with
      | none => rfl
      | some u =>
        rcases hA b (by rw [q]; simp) with e' | e'
        · rw [e'] at e q
          rw [hK (by rw [q]; simp)] at e
          cases e
        · obtain ⟨p, hp, ep⟩ := List.mem_map.mp e'
          rw [← ep, nT p hp] at e
          cases e)
    have hM : L2.Mod K mg (hidT s₁.heap H) := ⟨hKb, nsK hns, ⟨mb, nsK hb, hbb⟩, let ⟨mc, h1, h2⟩ := hlim; ⟨mc, nsK h1, h2⟩⟩
    have TB : ∀ p ∈ cs, LamX.TabB (hidT s₁.heap H) mg p.1 p.2 := fun p hp => by
      have hTp := hT p hp
      refine ⟨?_, ?_, fun z => ?_⟩
      · obtain ⟨o, us, file, tf, flags, tg, inF, text, tt, e1, r1, r2, r3, r4, r5, r6, r7, r8, hne⟩ := C p hp
        refine ⟨o, us, file, tf, flags, tg, inF, text, tt, base_of e1 (noD e1 (fun vs n z => ?_) fun z => ?_), r1, r2, r3, r4, r5, r6, r7, r8, hne⟩
        · rw [r2] at z
          cases z
        · rw [r2] at z
          cases z
          simp at r3
      · obtain ⟨bm, ob, b1, b2, b3, b4, b5, b6⟩ := hbm
        have nG : bm ≠ mainGlobals := fun q => by
          obtain ⟨o, es, ep, e, hd, _⟩ := hns
          rw [q, e] at b3
          cases b3
          rw [hd] at b6
          cases b6
        have nP : bm ≠ p.2 := fun q => by
          rw [q, hTp] at b3
          cases b3
          cases b6
        refine ⟨bm, ob, b1, b2, nG, nP, base_of b3 (noD b3 (fun vs n z => ?_) fun z => ?_), b4, b5, b6⟩
        · rw [b6] at z
          cases z
        · rw [b6] at z
          cases z
      · obtain ⟨o, es, ep, e, hd, _⟩ := hns
        rw [z, hTp] at e
        cases e
        cases hd
    have e0 : Env0 P w K mg (hidT s₁.heap H) callerA [] s₁ H := ⟨rfl, hM, fun b o e => of_hidT e, Nat.le_of_eq (hidT_size _ _), trivial, fun b hb => absurd (show b ∈ ([] : List Addr) from hb) (by simp), hok, .of_eq hg⟩
    refine codeAny_mono (F _ hKb (nsK hns) TB callerA [] s₁ H ⟨[.ref a], []⟩ [.ref a] [.ref a] _ _ hr e0 rfl (hbind s₁ (.ref a)) (.cons rfl .nil) (hsp H hH hS)) fun r s' h => ?_
    cases r with
    | error e =>
      obtain ⟨_, _, _, _, _, _, _, _, _, _, _, _, z⟩ := h
      exact z.elim
    | ok fl =>
      cases fl with
      | next => exact False.elim h
      | brk => exact False.elim h
      | cont => exact False.elim h
      | ret u =>
        obtain ⟨v, H', os, bare, un, hok', r', q⟩ := h
        have q' : v = .bl true := q
        subst q'
        obtain rfl : u = Value.bool true := r'
        have key : ∀ b o, b ∉ cs.map (·.2) → s₁.heap.get? b = some o → s'.heap.get? b = some o := fun b o nb e => by
          cases q : H b with
          | none => exact un.keep b o e q (by intro z; exact absurd (show b ∈ ([] : List Addr) from z) (by simp)) (by simp)
          | some u =>
            rcases hO b with z | z | ⟨ob, xs, z⟩
            · rw [q] at z; cases z
            · exact absurd z nb
            · have z2 := un.frzs b ob _ z
              obtain ⟨e1, _⟩ := hok b _ z
              obtain ⟨e2, _⟩ := hok' b _ z2
              rw [e] at e1; cases e1
              exact e2
        have grown : ∀ p ∈ cs, ∃ more : Array Value, s'.heap.get? p.2 = some { cls := .none, data := .fields more } := fun p hp => by
          obtain ⟨more, z⟩ := un.tbls p.2 #[] (hH p hp)
          exact ⟨_, hok' p.2 _ z⟩
        refine ⟨rfl, ⟨fun b o e => ?_, fun b o e => ?_⟩, os, bare⟩
        · by_cases hb : b ∈ cs.map (·.2)
          · obtain ⟨p, hp, ep⟩ := List.mem_map.mp hb
            obtain ⟨more, hm⟩ := grown p hp
            rw [← ep] at e ⊢
            rw [hT p hp] at e
            cases e
            exact .inr (.inl ⟨((C p hp).tab (hT p hp)).isCodeTable, rfl, #[], more, rfl, by rw [Array.empty_append]; exact hm⟩)
          · exact .inl (key b o hb e)
        · by_cases hb : b ∈ cs.map (·.2)
          · obtain ⟨p, hp, ep⟩ := List.mem_map.mp hb
            obtain ⟨more, hm⟩ := grown p hp
            rw [← ep]
            exact ⟨_, hm⟩
          · exact ⟨o, key b o hb e⟩
  cases hk : K.lookup a with
  | some o =>
    have e := KX a o hk
    rw [ha] at e
    cases e
    refine core (fun b => if b ∈ cs.map (·.2) then some (.tbl #[]) else none) (fun p hp => if_pos (memT p hp)) (fun b => ?_) ⟨fun _ => none, fun _ _ z => (nomatch z), fun _ _ => rfl, .inr fun H => .inr ⟨_, vs.toArray, _, hk, rfl, rfl, rfl, by rw [List.size_toArray, lenV]; exact hl, by simpa using rv⟩⟩ (fun b u z => ?_) (fun b z => ?_) fun z => absurd (show (if a ∈ cs.map (·.2) then some (HO.tbl #[]) else none) = none from if_neg aT) z
    · by_cases hb : b ∈ cs.map (·.2)
      · exact .inr (.inl hb)
      · exact .inl (if_neg hb)
    · by_cases hb : b ∈ cs.map (·.2)
      · have z' := (if_pos hb).symm.trans z
        cases z'
        exact isT b hb
      · have z' := (if_neg hb).symm.trans z
        cases z'
    · by_cases hb : b ∈ cs.map (·.2)
      · exact .inr hb
      · exact absurd (if_neg hb) z
  | none =>
    refine core (fun b => if b = a then some (.frz { cls := .type "list", data := .seq vs.toArray } (.lst (ns.map V.int))) else if b ∈ cs.map (·.2) then some (.tbl #[]) else none) (fun p hp => (if_neg (show ¬ p.2 = a from fun z => aT (by rw [← z]; exact memT p hp))).trans (if_pos (memT p hp))) (fun b => ?_)
      ⟨scrF a vs ns, scrF_sub, fun p hp => if_neg fun z => aT (by rw [← z]; exact memT p hp), .inl ⟨{ cls := .type "list", data := .seq vs.toArray }, if_pos rfl⟩⟩ (fun b u z => ?_) (fun b z => ?_) fun _ => hk
    · by_cases hb : b = a
      · exact .inr (.inr ⟨_, _, if_pos hb⟩)
      · by_cases hb2 : b ∈ cs.map (·.2)
        · exact .inr (.inl hb2)
        · exact .inl ((if_neg hb).trans (if_neg hb2))
    · by_cases hb : b = a
      · have z' := (if_pos hb).symm.trans z
        cases z'
        rw [hb]
        exact ⟨ha, by rw [List.length_map]; exact hl, vs, _, rv, ha⟩
      · have z1 := (if_neg hb).symm.trans z
        by_cases hb2 : b ∈ cs.map (·.2)
        · have z' := (if_pos hb2).symm.trans z1
          cases z'
          exact isT b hb2
        · have z' := (if_neg hb2).symm.trans z1
          cases z'
    · by_cases hb : b = a
      · exact .inl hb
      · by_cases hb2 : b ∈ cs.map (·.2)
        · exact .inr hb2
        · exact absurd ((if_neg hb).trans (if_neg hb2)) z
/-- the walk that the head leaves -/
theorem walk_G {l : PySem.W.OpenLaw} {n k : Nat} {q : Program} {loose : List Str} {XP : (Str → Option Value) → Heap → Prop} {YP : World → Heap → Prop} {d : DefRec} {x : Str}
    (hn : l.most = some n) (hn2 : n ≤ sizeLine) (hdf : d.params.defaults = []) (hr : RoomG k callerA)
    (F : ∀ (w : World) (mg : Str → Option Value) (fa : Addr) (h : Heap), YP w h → h.Ns mainGlobals mg → mg d.name = some (.ref fa) →
      ∃ (K : PySem.W.Frag) (fd : FuncData) (cls : Nm) (cs : List (Addr × Addr)) (res : List Arg → Option Res), K.In h ∧ (∀ p ∈ cs, h.get? p.2 = some { cls := .none, data := .fields #[] }) ∧ (∀ p ∈ cs, K.lookup p.2 = none) ∧ (∀ p ∈ cs, PySem.W.CodeHd h p.1 p.2) ∧
        (∀ p ∈ cls.T, ∃ c, (c, p.1) ∈ cs) ∧ (∀ (s : Shared) (u : Value), BindsTo s fd ⟨[u], []⟩ [(x, u)]) ∧
        (∀ ns : List Int, ns.length ≤ n → (∀ z ∈ ns, Builtin.Int.intBits z ≤ 1048576) → res [.v (.scr ns)] = some ⟨.ok (.val (.bl true)), []⟩) ∧
        ∀ base : Heap, K.In base → base.Ns mainGlobals mg → (∀ p ∈ cs, LamX.TabB base mg p.1 p.2) → FnG l.prog w K mg base k fa fd [x] (spF ⟨K, w, cls⟩ res)) :
    PySem.W.WalkO q loose XP YP l.row.toRowW d [] (fun f vs => PySem.call f vs) := by
  refine Att.attach_callB hn hdf fun w s₀ s₁ mg mb fa o pm cd doc a vs ns G Y ho hd hcd hmg hobj hints hlen hbits hg => ?_
  obtain ⟨K, fd, cls, cs, res, KX, hT, nT, C, hsub, hb, hres, hF⟩ := F w mg fa _ Y G.T.g hmg
  refine law_callGT KX G.T.g G.T.b G.T.builtins G.T.nolimit hg hT nT C G.T.bmain hobj hints (Nat.le_trans hlen hn2) hr hF hb fun H hH ⟨F0, s0, n0, hS⟩ => ?_
  refine ⟨F0, [.v (.scr ns)], [], .ok (.val (.bl true)), [], s0, fun p hp => ?_, .val (.scr hS) .nil, hres ns hlen hbits, fun v F' H' fp fr wr nw => ?_⟩
  · obtain ⟨c, hc⟩ := hsub p hp
    exact ⟨n0 _ hc, #[], hH _ hc, True.intro, fun pos cv z => by
      have z' : codeAmong pos [] = some cv := z
      simp [codeAmong] at z'⟩
  · have wv := wr.1
    cases wv
    rfl
end Py
set_option Elab.async false
set_option linter.all false
set_option maxRecDepth 100000
set_option maxHeartbeats 8000000
/-! PyHb: from the head's function object to a translated def. -/
namespace Py
open PySem PySem.Spec L2 PySem.SeqAt PyProof.Rows
variable {K : PySem.W.Frag} {ad : Nat → Addr} {fd : Nat → FuncData} {ps : Nat → List Str} {t : Tc}
theorem DefOk.of {x qual : Str} {params : Arguments} {body : List Stmt} {scope : Scope} {f : Nat} {g : Fn} {N : List Str} {n : Nat} (F : FunD K x qual params body scope [] [] (ad f) (fd f)) (S : FnScope N (ps f) scope)
    {mg : Str → Option Value} {base : Heap} {cls : Nm} {lb : Bool} (hs : g.slots = N.length) (hb : g.body = trSs { t with N := N, sc := scope, lam := lb } n body)
    (hl : lb = true → ∀ cdv : Value, (fd f).code = cdv → PySem.W.codeIn K cdv qual = true → LamAt mg base cls qual cdv) : DefOk K mg base cls ad fd ps t f g := by
  obtain ⟨oc, od, dV, kV, doc, pm, an, cdv, ct, osl, e, lk, hc, _, _⟩ := F.ex
  exact ⟨x, qual, params, body, scope, dV, kV, doc, pm, cdv, ct, oc, an, od, osl, N, n, lb, by rw [lk, e], hc, S, e, hs, hb, fun h => hl h cdv (by rw [e]) hc⟩
/-- a scope by its parts, for the kernel -/
def scB (N P : List Str) (sc : Scope) : Bool :=
  sc.kind == .function && !sc.isCoroutine && !sc.isGenerator && decide N.Nodup && decide (N.take P.length = P) &&
  P.all (fun x => match sc.names.lookup x with | some .local => true | some .cell => true | _ => false) && sc.names.all (fun y => match y.2 with | .free => false | _ => true)
theorem scB_ok {N P : List Str} {sc : Scope} (h : scB N P sc = true) : FnScope N P sc := by
  unfold scB at h
  simp only [Bool.and_eq_true, List.all_eq_true] at h
  obtain ⟨⟨⟨⟨⟨⟨h1, h2⟩, h3⟩, h4⟩, h5⟩, h6⟩, h7⟩ := h
  refine ⟨by simpa using h1, by simpa using h2, by simpa using h3, of_decide_eq_true h4, of_decide_eq_true h5, fun x hx => ?_, fun y hy z => ?_⟩
  · have := h6 x hx
    split at this
    · exact .inl (by assumption)
    · exact .inr (by assumption)
    · cases this
  · have := h7 y hy
    rw [z] at this
    cases this
theorem PosB.of {x qual : Str} {params : Arguments} {body : List Stmt} {scope : Scope} {kws : List (Str × L2.V)} {f : Nat} (F : FunD K x qual params body scope [] kws (ad f) (fd f))
    (h : ∀ (kV doc pm : Value) (an : Option Addr) (cdv ct : Value) (us : List Value), us.length = (ps f).length → bindArgs (PySem.W.fnOf x qual params body scope Value.none kV doc pm an cdv ct) { pos := us } = pure ((ps f).zip us)) : PosB K fd ps f :=
  fun s us _ hl => FunD.bindsA F h s us hl
/-- the function objects of the head's defs, by number -/
theorem fds_of {fa : List He.Fa} {fn : List He.DefD} (c : He.SaysD fa fn K) : ∃ fd : Nat → FuncData, ∀ (i : Nat) (d : He.DefD), fn[i]? = some d → FunD K d.name d.qual d.params d.body d.scope (He.DefD.dvs K d) (He.DefD.kws K d) (He.fAd K d.at_) (fd i) := by
  have h : ∀ i : Nat, ∃ fd : FuncData, ∀ d : He.DefD, fn[i]? = some d → FunD K d.name d.qual d.params d.body d.scope (He.DefD.dvs K d) (He.DefD.kws K d) (He.fAd K d.at_) fd := by
    intro i
    cases e : fn[i]? with
    | none => exact ⟨default, fun d z => (nomatch z)⟩
    | some d =>
      obtain ⟨fd, F⟩ := c.def_ i e
      exact ⟨fd, fun d' z => by cases z; exact F⟩
  exact ⟨fun i => Classical.choose (h i), fun i => Classical.choose_spec (h i)⟩
end Py
set_option Elab.async false
set_option linter.all false
set_option maxRecDepth 100000
set_option maxHeartbeats 8000000
/-! PyHc: the module's facts by membership. -/
namespace Py
open PySem PySem.Spec L2 PySem.SeqAt PyProof.Rows
variable {K : PySem.W.Frag} {fa : List He.Fa} {fn : List He.DefD} {h : Heap} {mg : Str → Option Value}
theorem fact_mem (c : He.SaysD fa fn K) {f : He.Fa} (m : f ∈ fa) : He.Fa.ok K f = true := by
  obtain ⟨i, hi⟩ := List.mem_iff_getElem?.mp m
  exact c.fact i hi
theorem mem_of_lookup {β : Type} : ∀ {l : List (Str × β)} {x : Str} {v : β}, l.lookup x = some v → (x, v) ∈ l
  | [], _, _, e => by cases e
  | (y, u) :: r, x, v, e => by
    rw [List.lookup_cons] at e
    by_cases q : x = y
    · subst q
      simp at e
      subst e
      exact List.mem_cons_self
    · rw [show (x == y) = false from by simp [q]] at e
      exact List.mem_cons_of_mem _ (mem_of_lookup e)
/-- where a def of the head stands -/
def adOf (K : PySem.W.Frag) (fn : List He.DefD) (i : Nat) : Addr := match fn[i]? with
  | some d => He.fAd K d.at_
  | none => He.fAd K ("", none)
/-- where a class of the head stands -/
def clsAt (K : PySem.W.Frag) (cn : List Str) (c : Nat) : Addr := match cn[c]? with
  | some x => He.ga K x
  | none => He.ga K ""
theorem adOf_glo {i : Nat} {x : Str} (e : fn[i]?.map (·.at_) = some (x, none)) : adOf K fn i = He.ga K x := by
  unfold adOf
  cases q : fn[i]? with
  | none => rw [q] at e; cases e
  | some d =>
    rw [q] at e
    have e' : d.at_ = (x, none) := by simpa using e
    show He.fAd K d.at_ = _
    rw [e']
    rfl
theorem adOf_meth {i : Nat} {x m : Str} (e : fn[i]?.map (·.at_) = some (x, some m)) : adOf K fn i = He.ma K (He.ga K x) m := by
  unfold adOf
  cases q : fn[i]? with
  | none => rw [q] at e; cases e
  | some d =>
    rw [q] at e
    have e' : d.at_ = (x, some m) := by simpa using e
    show He.fAd K d.at_ = _
    rw [e']
    rfl
theorem clsAt_eq {cn : List Str} {c : Nat} {x : Str} (e : cn[c]? = some x) : clsAt K cn c = He.ga K x := by
  unfold clsAt
  rw [e]
theorem glo_at (X : K.In h) (G : h.Ns mainGlobals mg) (c : He.SaysD fa fn K) {i : Nat} {x : Str} (m : He.Fa.glo x ∈ fa) (e : fn[i]?.map (·.at_) = some (x, none)) : mg x = some (.ref (adOf K fn i)) := by
  rw [adOf_glo e]
  exact He.glo_ok X G (fact_mem c m)
theorem free_at (X : K.In h) (G : h.Ns mainGlobals mg) (c : He.SaysD fa fn K) {x : Str} (m : He.Fa.free x ∈ fa) : mg x = none := He.free_ok X G (fact_mem c m)
theorem mk_at (c : He.SaysD fa fn K) {cn : List Str} {k i : Nat} {x : Str} (m : He.Fa.mkr x ∈ fa) (e1 : cn[k]? = some x) (e2 : fn[i]?.map (·.at_) = some (x, some ("__init__" : Str))) : Mk K (clsAt K cn k) (adOf K fn i) := by
  rw [clsAt_eq e1, adOf_meth e2]
  exact He.mkr_ok (fact_mem c m)
theorem meth_at (c : He.SaysD fa fn K) {cn : List Str} {k i : Nat} {x y : Str} (m : He.Fa.meth x y ∈ fa) (e1 : cn[k]? = some x) (e2 : fn[i]?.map (·.at_) = some (x, some y)) : Meth K (clsAt K cn k) y (adOf K fn i) := by
  rw [clsAt_eq e1, adOf_meth e2]
  exact He.meth_ok (fact_mem c m)
theorem cls_at (c : He.SaysD fa fn K) {cn : List Str} {k : Nat} {x : Str} (m : He.Fa.cls x ∈ fa) (e1 : cn[k]? = some x) : Cls K (clsAt K cn k) := by
  rw [clsAt_eq e1]
  exact He.cls_ok (fact_mem c m)
theorem noat_at (c : He.SaysD fa fn K) {cn : List Str} {k : Nat} {x y : Str} (m : He.Fa.noat x y ∈ fa) (e1 : cn[k]? = some x) : NoAttr K (clsAt K cn k) y := by
  rw [clsAt_eq e1]
  exact He.noat_ok (fact_mem c m)
end Py
set_option Elab.async false
set_option linter.all false
set_option maxRecDepth 100000
set_option maxHeartbeats 8000000
/-! PyHd: the module's facts joined. -/
namespace Py
open PySem PySem.Spec L2 PySem.SeqAt PyProof.Rows
variable {P : Program} {w : World} {K : PySem.W.Frag} {fa : List He.Fa} {fn : List He.DefD} {h : Heap} {mg : Str → Option Value} {Pg : Prog} {cn : List Str} {fd : Nat → FuncData} {ps : Nat → List Str} {t : Tc} {tT : List (Addr × Str)}
theorem Glb.of (X : K.In h) (G : h.Ns mainGlobals mg) (c : He.SaysD fa fn K)
    (hfree : ∀ x ∈ t.blt, He.Fa.free x ∈ fa)
    (hgls : ∀ x g d, t.gls.lookup x = some g → Pg.glob g = some d → ∃ v u, mg x = some u ∧ RelV v u ∧ ∀ F, Rp ⟨K, w, ⟨clsAt K cn, tT⟩⟩ F v d)
    (hfns : ∀ p ∈ t.fns, He.Fa.glo p.1 ∈ fa ∧ fn[p.2.1]?.map (·.at_) = some (p.1, none) ∧ p.2.2.1 = ps p.2.1)
    (hkeep : ∀ i, i < fn.length → PySem.W.keepIn K (.ref (adOf K fn i)) = true) (hpos : ∀ i, i < fn.length → PosB K fd ps i)
    (hkw : ∀ p ∈ t.fns, ∀ np, np ≤ p.2.2.1.length → t.kws.any (· == (p.1, np)) = true → ∀ (s : Shared) (us ws : List Value), K.In s.heap → us.length = np → ws.length = (p.2.2.1.drop np).length → BindsTo s (fd p.2.1) ⟨us, (p.2.2.1.drop np).zip ws⟩ (p.2.2.1.zip (us ++ ws)))
    (hkp : ∀ p ∈ t.fns, ∀ np ks pm, t.kwpAt p.1 np ks = some pm → np + ks.length = p.2.2.1.length ∧ ∀ (s : Shared) (us ws : List Value), K.In s.heap → us.length = np → ws.length = ks.length → BindsTo s (fd p.2.1) ⟨us, ks.zip ws⟩ (p.2.2.1.zip (permL pm (us ++ ws))) ∧ (permL pm (us ++ ws)).length = p.2.2.1.length)
    (hmks : ∀ p ∈ t.cls, He.Fa.glo p.1 ∈ fa ∧ He.Fa.mkr p.1 ∈ fa ∧ cn[p.2.1]? = some p.1 ∧ ∃ f, Pg.init p.2.1 = some f ∧ fn[f]?.map (·.at_) = some (p.1, some ("__init__" : Str)) ∧ (ps f).length = p.2.2 + 1)
    (hmts : ∀ m ∈ t.mts, ∀ k f, Pg.meth k m = some f → ∃ x, cn[k]? = some x ∧ He.Fa.cls x ∈ fa ∧ He.Fa.meth x m ∈ fa ∧ fn[f]?.map (·.at_) = some (x, some m) ∧ (ps f).length = Pg.arity f)
    (hxcs : ∀ x k, t.xcs.lookup x = some k → XkOk P K mg Pg.xfl x (clsAt K cn k) k)
    (hxvl : ∀ k b, Pg.xval k = some b → ExcC K (clsAt K cn k) ∧ PySem.W.kitOne K (.ref (clsAt K cn k)) (.type "ValueError") = some b)
    (hxfd : ∀ c fs f, Pg.xfl c = some fs → f ∈ fs → XfC K (clsAt K cn c) ∧ NoAttr K (clsAt K cn c) f)
    (hsm : (K.lookup sysModules).isSome = true)
    (hxsb : ∀ k c b, Pg.xsub k c = some b → ExcC K (clsAt K cn k) ∧ PySem.W.kitOne K (.ref (clsAt K cn k)) (.ref (clsAt K cn c)) = some b)
    (hler : ∃ CS, (∀ x, t.ler.contains x = true → LerOk K mg CS x) ∧ ∀ c, Pg.caught c = true → PySem.W.exmOne K (.ref (clsAt K cn c)) (.ref CS) = some true)
    (hflds : ∀ k f, Pg.flds k f = true → ∃ x, cn[k]? = some x ∧ He.Fa.cls x ∈ fa ∧ He.Fa.noat x f ∈ fa) :
    Glb P w K mg ⟨clsAt K cn, tT⟩ Pg (adOf K fn) fd ps t := by
  have lt : ∀ {i : Nat} {q : Str × Option Str}, fn[i]?.map (·.at_) = some q → i < fn.length := fun {i q} e => by
    cases z : fn[i]? with
    | none => rw [z] at e; cases e
    | some d => exact (List.getElem?_eq_some_iff.mp z).1
  refine ⟨fun x hx => free_at X G c (hfree x (by simpa using hx)), hgls, fun x f p ios e => ?_, fun x f p ios e => hkp _ (mem_of_lookup e), fun x k m e => ?_, fun m hm k f e => ?_, fun k f e => ?_, hxcs, hxvl, hxfd, hsm, hxsb, hler⟩
  · have m := mem_of_lookup e
    obtain ⟨h1, h2, h3⟩ := hfns _ m
    exact ⟨h3, glo_at X G c h1 h2, hkeep f (lt h2), hpos f (lt h2), fun np hn hk => hkw _ m np hn hk⟩
  · obtain ⟨h1, h2, h3, f, h4, h5, h6⟩ := hmks _ (mem_of_lookup e)
    refine ⟨?_, f, h4, mk_at c h2 h3 h5, h6, hpos f (lt h5)⟩
    show mg x = some (.ref (clsAt K cn k))
    rw [clsAt_eq h3]
    exact He.glo_ok X G (fact_mem c h1)
  · obtain ⟨x, h1, h2, h3, h4, h5⟩ := hmts m (by simpa using hm) k f e
    exact ⟨cls_at c h2 h1, meth_at c h3 h1 h4, h5, hpos f (lt h4)⟩
  · obtain ⟨x, h1, h2, h3⟩ := hflds k f e
    exact ⟨cls_at c h2 h1, noat_at c h3 h1⟩
end Py
set_option Elab.async false
set_option linter.all false
set_option maxRecDepth 100000
set_option maxHeartbeats 8000000
/-! PyHe: the module's constants, by what the kernel looks at. -/
namespace Py
open PySem PySem.Spec L2 PySem.SeqAt PyProof.Rows
mutual
/-- the value is the constant (no dict) -/
def conB (K : PySem.W.Frag) : D → Value → Bool
  | .non, .none => true
  | .bl b, .bool c => b == c
  | .int i, .int j _ => decide (i = j)
  | .str x, .str y _ => decide (x = y)
  | .tup ds, .ref a => (match K.lookup a with
    | some ⟨.type c, _, .seq its _, _⟩ => decide (c = "tuple") && (decide (its.size ≤ sizeLine) && conBs K ds its.toList)
    | _ => false)
  | _, _ => false
def conBs (K : PySem.W.Frag) : List D → List Value → Bool
  | [], [] => true
  | d :: ds, u :: us => conB K d u && conBs K ds us
  | _, _ => false
end
section
variable {K : PySem.W.Frag} {w : World} {cls : Nm}
mutual
theorem conB_ok : ∀ {d : D} {u : Value}, conB K d u = true → ∃ v, RelV v u ∧ ∀ F, Rp ⟨K, w, cls⟩ F v d
  | .non, u, h => by
    cases u with
    | none => exact ⟨.non, rfl, fun F => .non⟩
    | _ => cases h
  | .bl b, u, h => by
    cases u with
    | bool c =>
      obtain rfl : b = c := eq_of_beq h
      exact ⟨.bl b, rfl, fun F => .bl b⟩
    | _ => cases h
  | .int i, u, h => by
    cases u with
    | int j t =>
      obtain rfl : i = j := of_decide_eq_true h
      exact ⟨.int i, ⟨t, rfl⟩, fun F => .int i⟩
    | _ => cases h
  | .str x, u, h => by
    cases u with
    | str y t =>
      obtain rfl : x = y := of_decide_eq_true h
      exact ⟨.str x, ⟨t, rfl⟩, fun F => .str x⟩
    | _ => cases h
  | .tup ds, u, h => by
    cases u with
    | ref a =>
      have h1 : (match K.lookup a with
        | some ⟨.type c, _, .seq its _, _⟩ => decide (c = "tuple") && (decide (its.size ≤ sizeLine) && conBs K ds its.toList)
        | _ => false) = true := h
      cases q : K.lookup a with
      | none => rw [q] at h1; cases h1
      | some o =>
        obtain ⟨oc, od, dt, osl⟩ := o
        rw [q] at h1
        cases oc with
        | type c =>
          cases dt with
          | seq its n =>
            have h2 : (decide (c = "tuple") && (decide (its.size ≤ sizeLine) && conBs K ds its.toList)) = true := h1
            simp only [Bool.and_eq_true] at h2
            obtain ⟨e1, e2, e3⟩ := h2
            obtain ⟨vs, r, p⟩ := conBs_ok e3
            exact ⟨.ref a, rfl, fun F => .tup (.inr ⟨_, its, n, q, congrArg Value.type (of_decide_eq_true e1), rfl, of_decide_eq_true e2, r⟩) (p F)⟩
          | _ => cases h1
        | _ => cases dt <;> cases h1
    | _ => cases h
  | .lst _, u, h => by cases u <;> cases h
  | .dic _ _, u, h => by cases u <;> cases h
  | .ins _ _ _, u, h => by cases u <;> cases h
  | .scr _, u, h => by cases u <;> cases h
theorem conBs_ok : ∀ {ds : List D} {us : List Value}, conBs K ds us = true → ∃ vs, Vals vs us ∧ ∀ F, RpL ⟨K, w, cls⟩ F vs ds
  | [], [], _ => ⟨[], .nil, fun F => .nil⟩
  | [], _ :: _, h => by cases h
  | _ :: _, [], h => by cases h
  | d :: ds, u :: us, h => by
    have h1 : (conB K d u && conBs K ds us) = true := h
    simp only [Bool.and_eq_true] at h1
    obtain ⟨v, r, p⟩ := conB_ok h1.1
    obtain ⟨vs, rs, ps⟩ := conBs_ok h1.2
    exact ⟨v :: vs, .cons r rs, fun F => .cons (p F) (ps F)⟩
end
end
/-- the entries' keys are these texts -/
def keysB : List DictEntry → List Str → Bool
  | [], [] => true
  | e :: es, k :: ks => (match e.key with
    | .str y _ => decide (y = k)
    | _ => false) && keysB es ks
  | _, _ => false
/-- the written dict at a is the constant -/
def dikB (K : PySem.W.Frag) (a : Addr) (ks : List Str) (ds : List D) : Bool := match K.lookup a with
  | some ⟨_, _, .dict es _, _⟩ => keysB es.toList ks && conBs K ds (es.toList.map (·.val))
  | _ => false
theorem keysB_find : ∀ {es : List DictEntry} {ks : List Str} {vs : List VV}, keysB es ks = true → Vals vs (es.map (·.val)) → ∀ z : Str,
    RelO ((ks.zip vs).lookup z) ((es.find? (·.key.isStr z)).map (·.val)) ∧ es.any (·.refKey) = false
  | [], [], vs, _, r, z => by
    cases r
    exact ⟨trivial, rfl⟩
  | [], _ :: _, vs, h, r, z => by cases h
  | _ :: _, [], vs, h, r, z => by cases h
  | e :: es, k :: ks, vs, h, r, z => by
    have h1 : ((match e.key with
      | .str y _ => decide (y = k)
      | _ => false) && keysB es ks) = true := h
    simp only [Bool.and_eq_true] at h1
    obtain ⟨h2, h3⟩ := h1
    cases q : e.key with
    | str y t =>
      rw [q] at h2
      obtain rfl : y = k := of_decide_eq_true h2
      cases r with
      | @cons v u vs us r rs =>
        obtain ⟨a, b⟩ := keysB_find h3 rs z
        constructor
        · rw [List.zip_cons_cons, List.lookup_cons, List.find?_cons, q]
          by_cases hz : z = y
          · subst hz
            have e1 : (Value.str z t).isStr z = true := by simp [Value.isStr]
            have e2 : (z == z) = true := by simp
            rw [e1, e2]
            exact r
          · have e1 : (Value.str y t).isStr z = false := by
              simp [Value.isStr]
              intro q; exact hz q.symm
            have e2 : (z == y) = false := by simp [hz]
            rw [e1, e2]
            exact a
        · have e1 : e.refKey = false := by
            unfold DictEntry.refKey
            rw [q]
          rw [List.any_cons, e1, b]
          rfl
    | _ => rw [q] at h2; cases h2
theorem keysB_pairs : ∀ {es : List DictEntry} {ks : List Str}, keysB es ks = true → Paired (fun (e : DictEntry) (k : Str) => ∃ t, e.key = .str k t) es ks
  | [], [], _ => .nil
  | [], _ :: _, h => by cases h
  | _ :: _, [], h => by cases h
  | e :: es, k :: ks, h => by
    have h1 : ((match e.key with
      | .str y _ => decide (y = k)
      | _ => false) && keysB es ks) = true := h
    simp only [Bool.and_eq_true] at h1
    obtain ⟨h2, h3⟩ := h1
    refine .cons ?_ (keysB_pairs h3)
    cases q : e.key with
    | str y t =>
      rw [q] at h2
      obtain rfl : y = k := of_decide_eq_true h2
      exact ⟨t, rfl⟩
    | _ => rw [q] at h2; cases h2
theorem dikB_ok {K : PySem.W.Frag} {w : World} {cls : Nm} {a : Addr} {ks : List Str} {ds : List D} (h : dikB K a ks ds = true) (hk : ∃ es n, KDict K w a es n) (h0 : ks ≠ []) (hl : ks.length = ds.length) (hn : ks.Nodup) :
    ∀ F, Rp ⟨K, w, cls⟩ F (.ref a) (.dic (ks.map Ky.s) ds) := by
  obtain ⟨es, n, D⟩ := hk
  unfold dikB at h
  rw [D.at_] at h
  have h1 : (keysB es.toList ks && conBs K ds (es.toList.map (·.val))) = true := h
  simp only [Bool.and_eq_true] at h1
  obtain ⟨vs, r, p⟩ := conBs_ok (w := w) (cls := cls) h1.2
  intro F
  have hlen : vs.length = ds.length := (p F).length
  refine .dik D h0 (by rw [hl, hlen]) hn (fun z => ?_) (keysB_pairs h1.1) r (p F)
  obtain ⟨a1, b1⟩ := keysB_find h1.1 r z
  refine ⟨(es.toList.find? (·.key.isStr z)).map (·.val), ?_, a1⟩
  unfold PySem.W.nsIn
  rw [D.at_]
  cases q : es.toList.find? (·.key.isStr z) with
  | none =>
    simp only [q, b1]
    rfl
  | some e =>
    simp only [q]
    rfl
/-- the module's name is the constant -/
def gloB (K : PySem.W.Frag) (x : Str) (d : D) : Bool := match d with
  | .dic ks ds => (match ks.mapM (fun k => match k with | .s z => some z | .i _ => none) with
    | some zs => decide (ks = zs.map Ky.s) && decide (zs ≠ []) && decide (zs.length = ds.length) && decide (zs.Nodup) && He.eqO (PySem.W.nsIn K mainGlobals x) (some (some (.ref (He.ga K x)))) && dikB K (He.ga K x) zs ds
    | none => false)
  | d => match PySem.W.nsIn K mainGlobals x with
    | some (some u) => conB K d u
    | _ => false
/-- its keys, if it is a dict -/
def tabOf (x : Str) (d : D) : List He.Tab := match d with
  | .dic ks _ => [(fun K => He.ga K x, ks.filterMap fun k => match k with | .s z => some z | .i _ => none)]
  | _ => []
theorem filt_s : ∀ zs : List Str, (zs.map Ky.s).filterMap (fun k => match k with | .s z => some z | .i _ => none) = zs
  | [] => rfl
  | z :: zs => by
    rw [List.map_cons, List.filterMap_cons]
    show z :: _ = _
    rw [filt_s zs]
theorem gloB_ok {K : PySem.W.Frag} {w : World} {cls : Nm} {h : Heap} {mg : Str → Option Value} (X : K.In h) (G : h.Ns mainGlobals mg) {x : Str} {d : D} (e : gloB K x d = true) (ht : ∀ t ∈ tabOf x d, ∃ es n, KDict K w (t.1 K) es n) :
    ∃ v u, mg x = some u ∧ RelV v u ∧ ∀ F, Rp ⟨K, w, cls⟩ F v d := by
  have plain : (match PySem.W.nsIn K mainGlobals x with
    | some (some u) => conB K d u
    | _ => false) = true → ∃ v u, mg x = some u ∧ RelV v u ∧ ∀ F, Rp ⟨K, w, cls⟩ F v d := fun e => by
    cases q : PySem.W.nsIn K mainGlobals x with
    | none => rw [q] at e; cases e
    | some o =>
      cases o with
      | none => rw [q] at e; cases e
      | some u =>
        rw [q] at e
        obtain ⟨v, r, p⟩ := conB_ok (w := w) (cls := cls) e
        exact ⟨v, u, PySem.W.mg_of X G q, r, p⟩
  cases d with
  | dic ks ds =>
    have e1 : (match ks.mapM (fun k => match k with | .s z => some z | .i _ => none) with
      | some zs => decide (ks = zs.map Ky.s) && decide (zs ≠ []) && decide (zs.length = ds.length) && decide (zs.Nodup) && He.eqO (PySem.W.nsIn K mainGlobals x) (some (some (.ref (He.ga K x)))) && dikB K (He.ga K x) zs ds
      | none => false) = true := e
    cases q : ks.mapM (fun k => match k with | .s z => some z | .i _ => (none : Option Str)) with
    | none => rw [q] at e1; cases e1
    | some zs =>
      rw [q] at e1
      simp only [Bool.and_eq_true] at e1
      obtain ⟨⟨⟨⟨⟨a1, a2⟩, a3⟩, a4⟩, a5⟩, a6⟩ := e1
      obtain rfl := of_decide_eq_true a1
      refine ⟨.ref (He.ga K x), .ref (He.ga K x), PySem.W.mg_of X G (He.eqO_ok a5), rfl, dikB_ok a6 ?_ (of_decide_eq_true a2) (of_decide_eq_true a3) (of_decide_eq_true a4)⟩
      exact ht _ (List.mem_singleton.mpr rfl)
  | _ => exact plain e
end Py
set_option linter.all false
/-! PlA: how the small language is worked out, rule by rule. -/
namespace Py.Pl
open PySem (Str)
open M
section
variable {α β : Type}
def bndR (r : Option (R α × Env)) (k : α → M β) : Option (R β × Env) := match r with
  | none => none
  | some (.ok a, ρ') => k a ρ'
  | some (.ex x, ρ') => some (.ex x, ρ')
theorem bnd_app (m : M α) (k : α → M β) (ρ : Env) : bnd m k ρ = bndR (m ρ) k := by
  unfold bnd bndR
  rfl
theorem bndR_ok (a : α) (ρ : Env) (k : α → M β) : bndR (some (.ok a, ρ)) k = k a ρ := rfl
theorem bndR_none (k : α → M β) : bndR (none : Option (R α × Env)) k = none := rfl
theorem bndR_ex (x : Exn) (ρ : Env) (k : α → M β) : bndR (some (R.ex x, ρ) : Option (R α × Env)) k = some (.ex x, ρ) := rfl
theorem bndR_ite (c : Prop) [Decidable c] (x y : Option (R α × Env)) (k : α → M β) : bndR (if c then x else y) k = if c then bndR x k else bndR y k := by
  by_cases h : c
  · rw [if_pos h, if_pos h]
  · rw [if_neg h, if_neg h]
theorem ret_app (a : α) (ρ : Env) : ret a ρ = some (.ok a, ρ) := rfl
theorem pure_app (a : α) (ρ : Env) : (pure a : M α) ρ = some (.ok a, ρ) := rfl
theorem stuck_app (ρ : Env) : (stuck : M α) ρ = none := rfl
theorem lift_some (a : α) (ρ : Env) : lift (some a) ρ = some (.ok a, ρ) := rfl
theorem lift_none (ρ : Env) : lift (none : Option α) ρ = none := rfl
theorem ite_app (c : Prop) [Decidable c] (x y : M α) (ρ : Env) : (if c then x else y) ρ = if c then x ρ else y ρ := by
  by_cases h : c
  · rw [if_pos h, if_pos h]
  · rw [if_neg h, if_neg h]
theorem fzM_app (m : M W) (ρ : Env) : fzM m ρ = bndR (m ρ) fun w => lift w.fz := bnd_app _ _ _
end
/-- two ways that tell a truth value each -/
theorem ite_bl (c : Prop) [Decidable c] (x y : Bool) (ρ : Env) : (if c then some (R.ok (W.val (D.bl x)), ρ) else some (R.ok (W.val (D.bl y)), ρ)) = some (R.ok (W.val (D.bl (bif decide c then x else y))), ρ) := by
  by_cases h : c <;> simp [h]
theorem ite_d (c : Prop) [Decidable c] (x y : D) (ρ : Env) : (if c then some (R.ok x, ρ) else some (R.ok y, ρ)) = some (R.ok (if c then x else y), ρ) := by
  by_cases h : c <;> simp [h]
theorem ite_dbl (c : Prop) [Decidable c] (x y : Bool) : (if c then D.bl x else D.bl y) = D.bl (bif decide c then x else y) := by
  by_cases h : c <;> simp [h]
theorem ite_rt (c : Prop) [Decidable c] (x y : Bool) (ρ : Env) : (if c then some (R.ok (Fl.rt (W.val (D.bl x))), ρ) else some (R.ok (Fl.rt (W.val (D.bl y))), ρ)) = some (R.ok (Fl.rt (W.val (D.bl (bif decide c then x else y)))), ρ) := by
  by_cases h : c <;> simp [h]
section
variable (C : Cfg) (ρ : Env)
theorem d_lit (d : D) : den C (.lit d) ρ = some (.ok (.val d), ρ) := by simp only [den, ret_app] <;> rfl
theorem d_var (i : Nat) : den C (.var i) ρ = bndR (readV i ρ) fun d => ret (.val d) := by simp only [den, bnd_app] <;> rfl
theorem d_glob (g : Nat) : den C (.glob g) ρ = valM (C.glob g) ρ := by simp only [den] <;> rfl
theorem d_tup (es : List E) : den C (.tup es) ρ = bndR (denEs C es ρ) fun ds => if ds.length ≤ 1000 then ret (.val (.tup ds)) else stuck := by simp only [den, bnd_app] <;> rfl
theorem d_lst (es : List E) : den C (.lst es) ρ = bndR (denEs C es ρ) fun ds => if ds.length ≤ 1000 then ret (.own (.lst ds)) else stuck := by simp only [den, bnd_app] <;> rfl
theorem d_dic (ks : List Str) (es : List E) : den C (.dic ks es) ρ = bndR (denEs C es ρ) fun ds => if ks.Nodup ∧ ds.length = ks.length ∧ ks.length ≤ 15 then ret (.own (.dic (ks.map .s) ds)) else stuck := by simp only [den, bnd_app] <;> rfl
theorem d_bin (op : BOp) (a b : E) : den C (.bin op a b) ρ = bndR (opd a (den C a) ρ) fun x => bnd (opd b (den C b)) fun y => fin2 a b x y fun x y => newM (binD op x y) := by simp only [den, bnd_app] <;> rfl
theorem d_neg (a : E) : den C (.neg a) ρ = bndR (opd a (den C a) ρ) fun x => fin1 a x fun x => match x with
    | .int i => ret (.val (.int (-i)))
    | _ => stuck := by simp only [den, bnd_app] <;> rfl
theorem d_cmp (op : COp) (a b : E) : den C (.cmp op a b) ρ = bndR (opd a (den C a) ρ) fun x => bnd (opd b (den C b)) fun y => fin2 a b x y fun x y => blM (cmpD op x y) := by simp only [den, bnd_app] <;> rfl
theorem d_chain (op op' : COp) (a b c : E) : den C (.chain op op' a b c) ρ = bndR (opd a (den C a) ρ) fun x => bnd (opd b (den C b)) fun y => fin2 a b x y fun x' y' => bnd (lift (cmpD op x' y')) fun k =>
      if k then bnd (opd c (den C c)) fun z => fin2 b c y z fun y z => blM (cmpD op' y z) else ret (.val (.bl false)) := by simp only [den, bnd_app] <;> rfl
theorem d_and (a b : E) : den C (.and a b) ρ = bndR (fzM (den C a) ρ) fun x => boolOf x fun k => if k then den C b else ret (.val (.bl false)) := by simp only [den, bnd_app] <;> rfl
theorem d_or (a b : E) : den C (.or a b) ρ = bndR (fzM (den C a) ρ) fun x => boolOf x fun k => if k then ret (.val (.bl true)) else den C b := by simp only [den, bnd_app] <;> rfl
theorem d_not (a : E) : den C (.not a) ρ = bndR (fzM (den C a) ρ) fun x => boolOf x fun k => ret (.val (.bl (!k))) := by simp only [den, bnd_app] <;> rfl
theorem d_ifE (c a b : E) : den C (.ifE c a b) ρ = bndR (fzM (den C c) ρ) fun x => boolOf x fun k => if k then den C a else den C b := by simp only [den, bnd_app] <;> rfl
theorem d_idx (a b : E) : den C (.idx a b) ρ = bndR (opd a (den C a) ρ) fun x => bnd (opd b (den C b)) fun y => fin2 a b x y fun x y => valM (idxD x y) := by simp only [den, bnd_app] <;> rfl
theorem d_slice (a : E) (lo hi : Option E) : den C (.slice a lo hi) ρ = bndR (opd a (den C a) ρ) fun x => bnd (denO C lo) fun l => bnd (denO C hi) fun h => fin1 a x fun x => newM (sliceD x l h) := by simp only [den, bnd_app] <;> rfl
theorem d_rev (a : E) : den C (.rev a) ρ = bndR (opd a (den C a) ρ) fun x => fin1 a x fun x => newM (revD x) := by simp only [den, bnd_app] <;> rfl
theorem d_attr (a : E) (f : Str) : den C (.attr a f) ρ = bndR (opd a (den C a) ρ) fun x => fin1 a x fun x => valM (attrD C.flds C.xfl x f) := by simp only [den, bnd_app] <;> rfl
theorem d_call (f : Nat) (as : List Ar) : den C (.call f as) ρ = bndR (denAs C as ρ) fun vs => callM C f vs := by simp only [den, bnd_app] <;> rfl
theorem d_meth (o : E) (m : Str) (es : List E) : den C (.meth o m es) ρ = bndR (fzM (den C o) ρ) fun x => bnd (lift (methOf C x m es.length)) fun f => bnd (denEs C es) fun ds => methM C f x ds := by simp only [den, bnd_app] <;> rfl
theorem d_make (c : Nat) (es : List E) : den C (.make c es) ρ = bndR (denEs C es ρ) fun ds => makeM C c ds := by simp only [den, bnd_app] <;> rfl
theorem d_bi (b : BI) (es : List E) : den C (.bi b es) ρ = bndR (denOs C es ρ) fun ds ρ => match finAll es ds ρ with
    | some ds => newM (biD b ds) ρ
    | none => none := by simp only [den, bnd_app] <;> rfl
theorem d_isi (e : E) (t : Ty) : den C (.isi e t) ρ = bndR (opd e (den C e) ρ) fun x => fin1 e x fun x => blM (isiD t x) := by simp only [den, bnd_app] <;> rfl
theorem d_bm (m : BM) (o : E) (es : List E) : den C (.bm m o es) ρ = bndR (opd o (den C o) ρ) fun x => if isDic x then bnd (denEs C es) fun ds => fin1 o x fun x => valM (bmD m x ds) else stuck := by simp only [den, bnd_app] <;> rfl
theorem d_lc (p : Pat) (it : It) (cs : List E) (e : E) (own : List Nat) : den C (.lc p it cs e own) ρ = bndR (denI C it ρ) fun ds ρ => if plainAt ρ own then (bndR (noEx (lcM p own (denCs C cs) (fzM (den C e)) ρ ds []) ρ) fun xs => ret (.own (.lst xs))) else none := by simp only [den, bnd_app] <;> rfl
theorem d_dc (p : Pat) (it : It) (k v : E) (own : List Nat) : den C (.dc p it k v own) ρ = bndR (denI C it ρ) fun ds => match ds with
    | [] => ret (.own (.dic [] []))
    | _ => stuck := by simp only [den, bnd_app] <;> rfl
theorem d_drI (i : Nat) (k : Str) : den C (.drI i k) ρ = match drInt i k ρ with
  | some d => some (.ok (.val d), ρ)
  | none => none := by simp only [den, valM'] <;> rfl
theorem d_drW (i : Nat) : den C (.drW i) ρ = match drWid i ρ with
  | some d => some (.ok (.val d), ρ)
  | none => none := by simp only [den, valM'] <;> rfl
theorem d_drP (i : Nat) : den C (.drP i) ρ = drPop i ρ := by simp only [den] <;> rfl
theorem dEs_nil : denEs C [] ρ = some (.ok [], ρ) := by simp only [denEs, ret_app] <;> rfl
theorem dEs_cons (e : E) (es : List E) : denEs C (e :: es) ρ = bndR (fzM (den C e) ρ) fun d => bnd (denEs C es) fun ds => ret (d :: ds) := by simp only [denEs, bnd_app] <;> rfl
theorem dOs_nil : denOs C [] ρ = some (.ok [], ρ) := by simp only [denOs, ret_app] <;> rfl
theorem dOs_cons (e : E) (es : List E) : denOs C (e :: es) ρ = bndR (opd e (den C e) ρ) fun d => bnd (denOs C es) fun ds => ret (d :: ds) := by simp only [denOs, bnd_app] <;> rfl
theorem dAs_nil : denAs C [] ρ = some (.ok [], ρ) := by simp only [denAs, ret_app] <;> rfl
theorem dAs_v (e : E) (as : List Ar) : denAs C (.v e :: as) ρ = bndR (fzM (den C e) ρ) fun d => bnd (denAs C as) fun ds => ret (.v d :: ds) := by simp only [denAs, bnd_app] <;> rfl
theorem dAs_io (i : Nat) (as : List Ar) : denAs C (.io i :: as) ρ = bndR (hasIo i ρ) fun _ => bnd (denAs C as) fun ds => ret (.io i :: ds) := by simp only [denAs, bnd_app] <;> rfl
theorem dO_none : denO C none ρ = some (.ok none, ρ) := by simp only [denO, ret_app] <;> rfl
theorem dO_some (e : E) : denO C (some e) ρ = bndR (fzM (den C e) ρ) fun d => match d with
    | .int i => ret (some i)
    | _ => stuck := by simp only [denO, bnd_app] <;> rfl
theorem dCs_nil : denCs C [] ρ = some (.ok true, ρ) := by simp only [denCs, ret_app] <;> rfl
theorem dCs_cons (e : E) (es : List E) : denCs C (e :: es) ρ = bndR (fzM (den C e) ρ) fun d => match d with
    | .bl true => denCs C es
    | .bl false => ret false
    | _ => stuck := by simp only [denCs, bnd_app] <;> rfl
theorem dI_of (e : E) : denI C (.of e) ρ = bndR (fzM (den C e) ρ) fun d => lift (itemsD d) := by simp only [denI, bnd_app] <;> rfl
theorem dI_rng (es : List E) : denI C (.rng es) ρ = bndR (denEs C es ρ) fun ds => match ds with
    | [.int j] => if okR j then ret (range 0 j) else stuck
    | [.int i, .int j] => if okR i && okR j then ret (range i j) else stuck
    | _ => stuck := by simp only [denI, bnd_app] <;> rfl
theorem dI_enm (e : E) : denI C (.enm e) ρ = bndR (fzM (den C e) ρ) fun d => lift ((seqD d).map enumD) := by simp only [denI, bnd_app] <;> rfl
/-! ### statements -/
theorem s_nil : denSs C [] ρ = some (.ok .nx, ρ) := by simp only [denSs, ret_app] <;> rfl
def sqR (r : Option (R Fl × Env)) (k : M Fl) : Option (R Fl × Env) := bndR r fun f => match f with
    | .nx => k
    | f => ret f
theorem s_cons (s : S) (r : List S) : denSs C (s :: r) ρ = sqR (denS C s ρ) (denSs C r) := by simp only [denSs, bnd_app] <;> rfl
theorem sq_nx (ρ : Env) (k : M Fl) : sqR (some (.ok .nx, ρ)) k = k ρ := rfl
theorem sq_rt (w : W) (ρ : Env) (k : M Fl) : sqR (some (.ok (.rt w), ρ)) k = some (.ok (.rt w), ρ) := rfl
theorem sq_bk (ρ : Env) (k : M Fl) : sqR (some (.ok .bk, ρ)) k = some (.ok .bk, ρ) := rfl
theorem sq_ct (ρ : Env) (k : M Fl) : sqR (some (.ok .ct, ρ)) k = some (.ok .ct, ρ) := rfl
theorem sq_none (k : M Fl) : sqR none k = none := rfl
theorem sq_ite (c : Prop) [Decidable c] (x y : Option (R Fl × Env)) (k : M Fl) : sqR (if c then x else y) k = if c then sqR x k else sqR y k := bndR_ite _ _ _ _
theorem s_skip : denS C .skip ρ = some (.ok .nx, ρ) := by simp only [denS, ret_app] <;> rfl
theorem s_expr (e : E) : denS C (.expr e) ρ = bndR (fzM (den C e) ρ) fun _ => ret .nx := by simp only [denS, bnd_app] <;> rfl
theorem s_set (i : Nat) (e : E) : denS C (.set i e) ρ = bndR (den C e ρ) fun w => nxt (setV i w) := by simp only [denS, bnd_app] <;> rfl
theorem s_setp (p : Pat) (e : E) : denS C (.setp p e) ρ = bndR (fzM (den C e) ρ) fun d => nxt (bindP p d) := by simp only [denS, bnd_app] <;> rfl
theorem s_par (is : List Nat) (es : List E) : denS C (.par is es) ρ = bndR (denWs C es ρ) fun ws => nxt (setVs is ws) := by simp only [denS, bnd_app] <;> rfl
theorem s_app (i : Nat) (e : E) : denS C (.app i e) ρ = bndR (holds i Ob.isL ρ) fun _ => bnd (fzM (den C e)) fun d => nxt (chg i (appO d)) := by simp only [denS, bnd_app] <;> rfl
theorem s_ext (i : Nat) (e : E) : denS C (.ext i e) ρ = bndR (holds i Ob.isL ρ) fun _ => bnd (fzM (den C e)) fun d => nxt (chg i (extO d)) := by simp only [denS, bnd_app] <;> rfl
theorem s_upd (i : Nat) (e : E) : denS C (.upd i e) ρ = bndR (holds i Ob.isD ρ) fun _ => bnd (den C e) fun w => nxt (chg i (updO w)) := by simp only [denS, bnd_app] <;> rfl
theorem s_setf (i : Nat) (f : Str) (e : E) : denS C (.setf i f e) ρ = bndR (fzM (den C e) ρ) fun d => nxt (chg i (setfO C.flds f d)) := by simp only [denS, bnd_app] <;> rfl
theorem s_ret (e : E) : denS C (.ret e) ρ = bndR (fzM (den C e) ρ) fun d => ret (.rt (.val d)) := by simp only [denS, bnd_app] <;> rfl
theorem s_iff (c : E) (a b : List S) : denS C (.iff c a b) ρ = bndR (fzM (den C c) ρ) fun d => iffM d (denSs C a) (denSs C b) := by simp only [denS, bnd_app] <;> rfl
theorem s_for (p : Pat) (it : It) (body : List S) : denS C (.for_ p it body) ρ = bndR (denI C it ρ) fun ds => forM p (denSs C body) ds := by simp only [denS, bnd_app] <;> rfl
theorem s_whl (c : E) (body : List S) : denS C (.whl c body) ρ = whlM (fzM (den C c)) (denSs C body) C.loops ρ := by simp only [denS] <;> rfl
theorem s_drS (i : Nat) (k : Str) (e : E) : denS C (.drS i k e) ρ = bndR (fzM (den C e) ρ) fun d => match d with
    | .int v => nxt (chg i (drSet k v))
    | _ => stuck := by simp only [denS, bnd_app] <;> rfl
theorem s_retD (i : Nat) (e : E) : denS C (.retD i e) ρ = bndR (holds i Ob.isL ρ) fun _ => bnd (den C e) fun w => drOf i w := by simp only [denS, bnd_app] <;> rfl
theorem s_forC (p : Pat) (i : Nat) (body : List S) : denS C (.forC p i body) ρ = match cellsAt i ρ with
    | some cs => forCM p i cs (denSs C body) cs ρ
    | none => none := by simp only [denS] <;> rfl
theorem dWs_nil : denWs C [] ρ = some (.ok [], ρ) := rfl
theorem dWs_cons (e : E) (es : List E) : denWs C (e :: es) ρ = bndR (den C e ρ) fun w => bnd (denWs C es) fun ws => ret (w :: ws) := by simp only [denWs, bnd_app] <;> rfl
end
theorem iff_bl (b : Bool) (x y : M Fl) (ρ : Env) : iffM (.bl b) x y ρ = if b = true then x ρ else y ρ := by cases b <;> rfl
theorem boolOf_bl (b : Bool) (k : Bool → M W) : boolOf (.bl b) k = k b := rfl
theorem nxt_app (m : M Unit) (ρ : Env) : nxt m ρ = bndR (m ρ) fun _ => ret .nx := bnd_app _ _ _
theorem valM_some (d : D) (ρ : Env) : valM (some d) ρ = some (.ok (.val d), ρ) := rfl
theorem newM_some (d : D) (ρ : Env) : newM (some d) ρ = some (.ok (ownW d), ρ) := rfl
theorem blM_some (b : Bool) (ρ : Env) : blM (some b) ρ = some (.ok (.val (.bl b)), ρ) := rfl
theorem fin1_none {a : E} (h : isVar a = none) (x : D) (k : D → M W) (ρ : Env) : fin1 a x k ρ = k x ρ := by
  unfold fin1 fin
  rw [h]
theorem fin1_var (i : Nat) (x : D) (k : D → M W) (ρ : Env) : fin1 (.var i) x k ρ = match peekV i ρ with
  | some x => k x ρ
  | none => none := rfl
theorem fin2_app (a b : E) (x y : D) (k : D → D → M W) (ρ : Env) : fin2 a b x y k ρ = fin1 a x (fun x => fin1 b y fun y => k x y) ρ := rfl
theorem opd_var (i : Nat) (m : M W) (ρ : Env) : opd (.var i) m ρ = match peekV i ρ with
  | some d => some (.ok d, ρ)
  | none => none := rfl
theorem opd_none {a : E} (h : isVar a = none) (m : M W) (ρ : Env) : opd a m ρ = bndR (m ρ) fun w => lift w.fz := by
  unfold opd
  rw [h]
  exact fzM_app m ρ
/-! ### slots -/
theorem pk_0 (d : D) (ρ : Env) : peekV 0 (.val d :: ρ) = some d := rfl
theorem pk_own (o : Ob) (m : Bool) (ρ : Env) : peekV 0 (.own o m :: ρ) = frz o := rfl
theorem pk_s (i : Nat) (s : Slot) (ρ : Env) : peekV (i + 1) (s :: ρ) = peekV i ρ := rfl
theorem pk_at {i : Nat} {d : D} {ρ : Env} (h : ρ[i]? = some (.val d)) : peekV i ρ = some d := by unfold peekV; rw [h]
theorem rd_at {i : Nat} {d : D} {ρ : Env} (h : ρ[i]? = some (.val d)) : readV i ρ = some (.ok d, ρ) := by unfold readV; rw [h]
/-! ### slots that are set -/
theorem setV_val {i : Nat} {d : D} {w : W} {ρ : Env} (h : ρ[i]? = some (.val d)) : setV i w ρ = some (.ok (), ρ.set i w.slot) := by unfold setV; rw [h]
theorem setV_un {i : Nat} {w : W} {ρ : Env} (h : ρ[i]? = some .un) : setV i w ρ = some (.ok (), ρ.set i w.slot) := by unfold setV; rw [h]
theorem setV_own {i : Nat} {o : Ob} {w : W} {ρ : Env} (h : ρ[i]? = some (.own o false)) : setV i w ρ = some (.ok (), ρ.set i w.slot) := by unfold setV; rw [h]
theorem bindP_name (i : Nat) (d : D) : bindP (.name i) d = setV i (.val d) := rfl
theorem bindP_tup (ps : List Pat) (ds : List D) : bindP (.tup ps) (.tup ds) = if ps.length = ds.length then bindPs ps ds else stuck := rfl
theorem bindPs_nil : bindPs [] [] = ret () := rfl
theorem bindPs_cons (p : Pat) (ps : List Pat) (d : D) (ds : List D) : bindPs (p :: ps) (d :: ds) = bnd (bindP p d) fun _ => bindPs ps ds := rfl
theorem setVs_nil : setVs [] [] = ret () := rfl
theorem setVs_cons (i : Nat) (is : List Nat) (w : W) (ws : List W) : setVs (i :: is) (w :: ws) = bnd (setV i w) fun _ => setVs is ws := rfl
/-! ### calls of values -/
def gotV (r : Option Res) (ρ : Env) : Option (R W × Env) := gotM [] r ρ
theorem gotV_ok (d : D) (ρ : Env) : gotV (some ⟨.ok (.val d), []⟩) ρ = some (.ok (.val d), ρ) := rfl
theorem gotV_own (o : Ob) (ρ : Env) : gotV (some ⟨.ok (.own o), []⟩) ρ = some (.ok (.own o), ρ) := rfl
theorem callM_v0 (C : Cfg) (f : Nat) (ρ : Env) : callM C f [] ρ = gotV (C.call f []) ρ := rfl
theorem callM_v1 (C : Cfg) (f : Nat) (a : D) (ρ : Env) : callM C f [.v a] ρ = gotV (C.call f [.v a]) ρ := rfl
theorem callM_v2 (C : Cfg) (f : Nat) (a b : D) (ρ : Env) : callM C f [.v a, .v b] ρ = gotV (C.call f [.v a, .v b]) ρ := rfl
theorem callM_v3 (C : Cfg) (f : Nat) (a b c : D) (ρ : Env) : callM C f [.v a, .v b, .v c] ρ = gotV (C.call f [.v a, .v b, .v c]) ρ := rfl
theorem callM_v4 (C : Cfg) (f : Nat) (a b c d : D) (ρ : Env) : callM C f [.v a, .v b, .v c, .v d] ρ = gotV (C.call f [.v a, .v b, .v c, .v d]) ρ := rfl
theorem callM_v5 (C : Cfg) (f : Nat) (a b c d e : D) (ρ : Env) : callM C f [.v a, .v b, .v c, .v d, .v e] ρ = gotV (C.call f [.v a, .v b, .v c, .v d, .v e]) ρ := rfl
theorem methM_v (C : Cfg) (f : Nat) (o : D) (ds : List D) (ρ : Env) : methM C f o ds ρ = gotV (C.call f (.v o :: ds.map .v)) ρ := rfl
theorem map_v0 : ([] : List D).map Arg.v = [] := rfl
theorem map_v1 (x : D) (xs : List D) : (x :: xs).map Arg.v = .v x :: xs.map .v := rfl
/-! ### one in-out argument, the first one -/
def gotD (i : Nat) (r : Option Res) (ρ : Env) : Option (R W × Env) := gotM [i] r ρ
theorem gotD_ok {i : Nat} {o o' : Ob} {m : Bool} {w : W} {ρ : Env} (h : ρ[i]? = some (.own o m)) : gotD i (some ⟨.ok w, [o']⟩) ρ = some (.ok w, ρ.set i (.own o' m)) := by
  unfold gotD gotM
  show (match putBack [i] [o'] ρ with | some (.ok _, ρ') => _ | _ => _) = _
  have e : putBack [i] [o'] ρ = some (.ok (), ρ.set i (.own o' m)) := by
    show (match ρ[i]? with | some (.own _ m) => putBack [] [] (ρ.set i (.own o' m)) | _ => none) = _
    rw [h]
    rfl
  rw [e]
theorem callM_d {C : Cfg} {f i : Nat} {o : Ob} {m : Bool} {ds : List D} {ρ : Env} (h : ρ[i]? = some (.own o m)) : callM C f (.io i :: ds.map AV.v) ρ = gotD i (C.call f (.o o :: ds.map Arg.v)) ρ := by
  have e1 : ∀ ds : List D, (ds.map AV.v).mapM (AV.arg ρ) = some (ds.map Arg.v) := by
    intro ds
    induction ds with
    | nil => rfl
    | cons x xs ih =>
      rw [List.map_cons, List.mapM_cons, ih]
      rfl
  have e2 : ∀ ds : List D, ioOf (ds.map AV.v) = [] := by
    intro ds
    induction ds with
    | nil => rfl
    | cons x xs ih => exact ih
  have e3 : (AV.io i :: ds.map AV.v).mapM (AV.arg ρ) = some (Arg.o o :: ds.map Arg.v) := by
    rw [List.mapM_cons, e1]
    have : AV.arg ρ (.io i) = some (Arg.o o) := by
      show (ioAt i ρ).map Arg.o = _
      unfold ioAt
      rw [h]
      rfl
    rw [this]
    rfl
  have e4 : ioOf (AV.io i :: ds.map AV.v) = [i] := by
    show i :: ioOf (ds.map AV.v) = _
    rw [e2]
  unfold callM
  rw [e3, e4]
  rfl
theorem hasIo_own {i : Nat} {o : Ob} {m : Bool} {ρ : Env} (h : ρ[i]? = some (.own o m)) : hasIo i ρ = some (.ok (), ρ) := by
  unfold hasIo ioAt
  rw [h]
/-! ### runs of defs -/
theorem run_rt {C : Cfg} {f : Fn} {args : List Arg} {w : W} {os : List Ob} {ρ ρ' : Env} (h : slots f.pars args = some ρ) (he : denSs C f.body (ρ ++ List.replicate (f.slots - ρ.length) .un) = some (.ok (.rt w), ρ')) (hb : backsOf f.pars ρ' = some os) : runFn C f args = some ⟨.ok w, os⟩ := by
  unfold runFn
  simp only [h, he, hb, Option.map_some]
theorem run_nx {C : Cfg} {f : Fn} {args : List Arg} {os : List Ob} {ρ ρ' : Env} (h : slots f.pars args = some ρ) (he : denSs C f.body (ρ ++ List.replicate (f.slots - ρ.length) .un) = some (.ok .nx, ρ')) (hb : backsOf f.pars ρ' = some os) : runFn C f args = some ⟨.ok (.val .non), os⟩ := by
  unfold runFn
  simp only [h, he, hb, Option.map_some]
/-! ### loops -/
theorem forM_nil (p : Pat) (body : M Fl) (ρ : Env) : forM p body [] ρ = some (.ok .nx, ρ) := rfl
/-- one turn -/
def turn (p : Pat) (body : M Fl) (d : D) (ρ : Env) : Option (R Fl × Env) := bndR (bindP p d ρ) fun _ => body
def nextR (r : Option (R Fl × Env)) (k : M Fl) : Option (R Fl × Env) := bndR r fun f => match f with
    | .nx | .ct => k
    | .bk => ret .nx
    | .rt d => ret (.rt d)
theorem forM_cons (p : Pat) (body : M Fl) (d : D) (ds : List D) (ρ : Env) : forM p body (d :: ds) ρ = nextR (turn p body d ρ) (forM p body ds) := by
  show bnd (bindP p d) (fun _ => bnd body _) ρ = _
  rw [bnd_app]
  unfold turn nextR
  cases bindP p d ρ with
  | none => rfl
  | some q =>
    obtain ⟨r, ρ1⟩ := q
    cases r with
    | ex x => rfl
    | ok u =>
      show bnd body _ ρ1 = bndR (body ρ1) _
      rw [bnd_app] <;> rfl
theorem next_nx (ρ : Env) (k : M Fl) : nextR (some (.ok .nx, ρ)) k = k ρ := rfl
theorem next_ct (ρ : Env) (k : M Fl) : nextR (some (.ok .ct, ρ)) k = k ρ := rfl
theorem next_bk (ρ : Env) (k : M Fl) : nextR (some (.ok .bk, ρ)) k = some (.ok .nx, ρ) := rfl
theorem next_rt (w : W) (ρ : Env) (k : M Fl) : nextR (some (.ok (.rt w), ρ)) k = some (.ok (.rt w), ρ) := rfl
theorem next_ite (c : Prop) [Decidable c] (x y : Option (R Fl × Env)) (k : M Fl) : nextR (if c then x else y) k = if c then nextR x k else nextR y k := bndR_ite _ _ _ _
theorem forM_inv {p : Pat} {body : M Fl} {I : List D → Env → Prop} (h : ∀ d ds ρ, I (d :: ds) ρ → ∃ ρ', turn p body d ρ = some (.ok .nx, ρ') ∧ I ds ρ') : ∀ ds ρ, I ds ρ → ∃ ρ', forM p body ds ρ = some (.ok .nx, ρ') ∧ I [] ρ'
  | [], ρ, i => ⟨ρ, rfl, i⟩
  | d :: ds, ρ, i => by
    obtain ⟨ρ1, e, i1⟩ := h d ds ρ i
    obtain ⟨ρ2, e2, i2⟩ := forM_inv h ds ρ1 i1
    exact ⟨ρ2, by rw [forM_cons, e, next_nx, e2], i2⟩
/-- a loop that may end with a return -/
theorem forM_rt {p : Pat} {body : M Fl} {I : List D → Env → Prop} {T : W → Env → Prop} (h : ∀ d ds ρ, I (d :: ds) ρ → (∃ ρ', turn p body d ρ = some (.ok .nx, ρ') ∧ I ds ρ') ∨ ∃ w ρ', turn p body d ρ = some (.ok (.rt w), ρ') ∧ T w ρ') :
    ∀ ds ρ, I ds ρ → (∃ ρ', forM p body ds ρ = some (.ok .nx, ρ') ∧ I [] ρ') ∨ ∃ w ρ', forM p body ds ρ = some (.ok (.rt w), ρ') ∧ T w ρ'
  | [], ρ, i => .inl ⟨ρ, rfl, i⟩
  | d :: ds, ρ, i => by
    rcases h d ds ρ i with ⟨ρ1, e, i1⟩ | ⟨w, ρ1, e, t⟩
    · rcases forM_rt h ds ρ1 i1 with ⟨ρ2, e2, i2⟩ | ⟨w, ρ2, e2, t⟩
      · exact .inl ⟨ρ2, by rw [forM_cons, e, next_nx, e2], i2⟩
      · exact .inr ⟨w, ρ2, by rw [forM_cons, e, next_nx, e2], t⟩
    · exact .inr ⟨w, ρ1, by rw [forM_cons, e, next_rt], t⟩
theorem whlM_inv {c : M D} {body : M Fl} {I : Nat → Env → Prop} {T : Env → Prop} (h : ∀ m ρ, I m ρ → (∃ ρ1, c ρ = some (.ok (.bl false), ρ1) ∧ T ρ1) ∨ ∃ ρ1 ρ2 m', c ρ = some (.ok (.bl true), ρ1) ∧ body ρ1 = some (.ok .nx, ρ2) ∧ m' < m ∧ I m' ρ2) :
    ∀ n m ρ, m < n → I m ρ → ∃ ρ', whlM c body n ρ = some (.ok .nx, ρ') ∧ T ρ'
  | 0, m, ρ, l, i => absurd l (Nat.not_lt_zero _)
  | n + 1, m, ρ, l, i => by
    rcases h m ρ i with ⟨ρ1, e, t⟩ | ⟨ρ1, ρ2, m', e1, e2, l2, i2⟩
    · exact ⟨ρ1, by show bnd c _ ρ = _; rw [bnd_app, e]; rfl, t⟩
    · obtain ⟨ρ3, e3, t⟩ := whlM_inv h n m' ρ2 (by omega) i2
      refine ⟨ρ3, ?_, t⟩
      show bnd c _ ρ = _
      rw [bnd_app, e1, bndR_ok]
      show bnd body _ ρ1 = _
      rw [bnd_app, e2, bndR_ok] <;> exact e3
/-! ### comprehensions -/
def lcT (p : Pat) (own : List Nat) (test : M Bool) (elt : M D) (ρ0 : Env) (d : D) (acc : List D) (ρ : Env) : Option (R (List D) × Env) :=
  bndR (bndR (bindP p d (wipeE ρ own)) fun _ => bnd test fun b => match b with
    | true => bnd elt fun x => if acc.length < lim then ret (acc ++ [x]) else stuck
    | false => ret acc) fun acc' ρ => if plainAt ρ own then some (.ok acc', backE ρ0 ρ own) else none
theorem lcM_nil (p : Pat) (own : List Nat) (test : M Bool) (elt : M D) (ρ0 : Env) (acc : List D) (ρ : Env) : lcM p own test elt ρ0 [] acc ρ = some (.ok acc, ρ) := rfl
theorem lcM_cons (p : Pat) (own : List Nat) (test : M Bool) (elt : M D) (ρ0 : Env) (d : D) (ds acc : List D) (ρ : Env) : lcM p own test elt ρ0 (d :: ds) acc ρ = bndR (lcT p own test elt ρ0 d acc ρ) fun acc' => lcM p own test elt ρ0 ds acc' := by
  have s1 : lcM p own test elt ρ0 (d :: ds) acc ρ = bndR (bindP p d (wipeE ρ own)) fun _ => bnd test fun b => bnd (match b with
        | true => bnd elt fun x => if acc.length < lim then ret (acc ++ [x]) else stuck
        | false => ret acc) fun acc' => bnd (fun ρ => if plainAt ρ own then some (.ok (), backE ρ0 ρ own) else none) fun _ => lcM p own test elt ρ0 ds acc' := by
    show (bnd (bindP p d) _) (wipeE ρ own) = _
    rw [bnd_app] <;> rfl
  rw [s1]
  unfold lcT
  cases bindP p d (wipeE ρ own) with
  | none => rfl
  | some q =>
    obtain ⟨r, ρ1⟩ := q
    cases r with
    | ex x => rfl
    | ok u =>
      rw [bndR_ok, bndR_ok, bnd_app, bnd_app]
      cases test ρ1 with
      | none => rfl
      | some q =>
        obtain ⟨r, ρ2⟩ := q
        cases r with
        | ex x => rfl
        | ok b =>
          rw [bndR_ok, bndR_ok, bnd_app]
          have : ∀ r : Option (R (List D) × Env), (bndR r fun acc' => bnd (fun ρ => if plainAt ρ own = true then some (R.ok (), backE ρ0 ρ own) else none) fun _ => lcM p own test elt ρ0 ds acc') = bndR (bndR r fun acc' ρ => if plainAt ρ own = true then some (R.ok acc', backE ρ0 ρ own) else none) fun acc' => lcM p own test elt ρ0 ds acc' := by
            intro r
            cases r with
            | none => rfl
            | some q =>
              obtain ⟨r, ρ3⟩ := q
              cases r with
              | ex x => rfl
              | ok a =>
                show bndR (if plainAt ρ3 own = true then some (R.ok (), backE ρ0 ρ3 own) else none) (fun _ => lcM p own test elt ρ0 ds a) = bndR (if plainAt ρ3 own = true then some (R.ok a, backE ρ0 ρ3 own) else none) fun acc' => lcM p own test elt ρ0 ds acc'
                by_cases hp : plainAt ρ3 own = true
                · rw [if_pos hp, if_pos hp, bndR_ok, bndR_ok]
                · rw [if_neg hp, if_neg hp]
                  rfl
          exact this _
/-- a comprehension whose turns change nothing -/
theorem lcM_flat {p : Pat} {own : List Nat} {test : M Bool} {elt : M D} {ρ : Env} {g : D → List D} : ∀ {ds acc : List D}, acc.length + ds.length ≤ lim → (∀ d ∈ ds, (g d).length ≤ 1) → (∀ d ∈ ds, ∀ acc : List D, acc.length < lim → lcT p own test elt ρ d acc ρ = some (.ok (acc ++ g d), ρ)) →
    lcM p own test elt ρ ds acc ρ = some (.ok (acc ++ ds.flatMap g), ρ)
  | [], acc, _, _, _ => by rw [lcM_nil, List.flatMap_nil, List.append_nil]
  | d :: ds, acc, hl, h1, h => by
    rw [List.length_cons] at hl
    have g1 := h1 d List.mem_cons_self
    rw [lcM_cons, h d List.mem_cons_self acc (by omega), bndR_ok, lcM_flat (by rw [List.length_append]; omega) (fun d hd => h1 d (List.mem_cons_of_mem _ hd)) fun d hd => h d (List.mem_cons_of_mem _ hd)]
    rw [List.flatMap_cons, List.append_assoc]
/-- .. without a test -/
theorem lcM_map {p : Pat} {own : List Nat} {test : M Bool} {elt : M D} {ρ : Env} {g : D → D} : ∀ {ds acc : List D}, acc.length + ds.length ≤ lim → (∀ d ∈ ds, ∀ acc : List D, acc.length < lim → lcT p own test elt ρ d acc ρ = some (.ok (acc ++ [g d]), ρ)) →
    lcM p own test elt ρ ds acc ρ = some (.ok (acc ++ ds.map g), ρ) := by
  intro ds acc hl h
  have := lcM_flat (g := fun d => [g d]) hl (fun _ _ => Nat.le_refl _) h
  have e : ∀ ds : List D, ds.flatMap (fun d => [g d]) = ds.map g := by
    intro ds
    induction ds with
    | nil => rfl
    | cons d ds ih => rw [List.flatMap_cons, ih, List.map_cons]; rfl
  rw [this, e]
/-- with a state in the slots -/
theorem lcM_inv {p : Pat} {own : List Nat} {test : M Bool} {elt : M D} {ρ0 : Env} {I : List D → List D → Env → Prop} (h : ∀ d ds acc ρ, I (d :: ds) acc ρ → ∃ acc' ρ', lcT p own test elt ρ0 d acc ρ = some (.ok acc', ρ') ∧ I ds acc' ρ') :
    ∀ ds acc ρ, I ds acc ρ → ∃ acc' ρ', lcM p own test elt ρ0 ds acc ρ = some (.ok acc', ρ') ∧ I [] acc' ρ'
  | [], acc, ρ, i => ⟨acc, ρ, rfl, i⟩
  | d :: ds, acc, ρ, i => by
    obtain ⟨acc1, ρ1, e, i1⟩ := h d ds acc ρ i
    obtain ⟨acc2, ρ2, e2, i2⟩ := lcM_inv h ds acc1 ρ1 i1
    exact ⟨acc2, ρ2, by rw [lcM_cons, e, bndR_ok, e2], i2⟩
theorem noEx_ok {α : Type} {m : M α} {ρ ρ' : Env} {a : α} (h : m ρ = some (.ok a, ρ')) : noEx m ρ = some (.ok a, ρ') := by
  unfold noEx
  rw [h]
/-! ### the fuel -/
theorem evalS {P : Prog} {n f : Nat} {fn : Fn} (h : P.fn f = some fn) (args : List Arg) : evalN P (n + 1) f args = runFn ⟨evalN P n, P.glob, P.meth, P.flds, P.init, P.arity, P.loops, P.xsub, P.xval, P.xfl, P.caught, decide (P.lam0 ≤ n)⟩ fn args := by
  show (match P.fn f with | some fn => runFn _ fn args | none => P.hand f args) = _
  rw [h]
def cf (P : Prog) (n : Nat) : Cfg := ⟨evalN P n, P.glob, P.meth, P.flds, P.init, P.arity, P.loops, P.xsub, P.xval, P.xfl, P.caught, decide (P.lam0 ≤ n)⟩
theorem cf_call (P : Prog) (n f : Nat) (as : List Arg) : (cf P n).call f as = evalN P n f as := rfl
theorem evalN_of {P : Prog} {N f : Nat} {fn : Fn} {args : List Arg} {r : Option Res} (h : P.fn f = some fn) (hN : 1 ≤ N) (e : runFn (cf P (N - 1)) fn args = r) : evalN P N f args = r := by
  obtain ⟨n, rfl⟩ : ∃ n, N = n + 1 := ⟨N - 1, by omega⟩
  rw [evalS h]
  exact e
/-! ### operations on constructors -/
theorem isi_int_non : isiD .int .non = some false := rfl
theorem isi_int_bl (b : Bool) : isiD .int (.bl b) = some true := rfl
theorem isi_int_int (i : Int) : isiD .int (.int i) = some true := rfl
theorem isi_int_str (s : Str) : isiD .int (.str s) = some false := rfl
theorem isi_int_tup (xs : List D) : isiD .int (.tup xs) = some false := rfl
theorem isi_int_lst (xs : List D) : isiD .int (.lst xs) = some false := rfl
theorem isi_int_dic (ks : List Ky) (vs : List D) : isiD .int (.dic ks vs) = some false := rfl
theorem isi_bool_non : isiD .bool .non = some false := rfl
theorem isi_bool_bl (b : Bool) : isiD .bool (.bl b) = some true := rfl
theorem isi_bool_int (i : Int) : isiD .bool (.int i) = some false := rfl
theorem isi_bool_str (s : Str) : isiD .bool (.str s) = some false := rfl
theorem isi_bool_tup (xs : List D) : isiD .bool (.tup xs) = some false := rfl
theorem isi_bool_lst (xs : List D) : isiD .bool (.lst xs) = some false := rfl
theorem isi_bool_dic (ks : List Ky) (vs : List D) : isiD .bool (.dic ks vs) = some false := rfl
theorem isi_str_non : isiD .str .non = some false := rfl
theorem isi_str_bl (b : Bool) : isiD .str (.bl b) = some false := rfl
theorem isi_str_int (i : Int) : isiD .str (.int i) = some false := rfl
theorem isi_str_str (s : Str) : isiD .str (.str s) = some true := rfl
theorem isi_str_tup (xs : List D) : isiD .str (.tup xs) = some false := rfl
theorem isi_str_lst (xs : List D) : isiD .str (.lst xs) = some false := rfl
theorem isi_str_dic (ks : List Ky) (vs : List D) : isiD .str (.dic ks vs) = some false := rfl
theorem isi_tuple_non : isiD .tuple .non = some false := rfl
theorem isi_tuple_bl (b : Bool) : isiD .tuple (.bl b) = some false := rfl
theorem isi_tuple_int (i : Int) : isiD .tuple (.int i) = some false := rfl
theorem isi_tuple_str (s : Str) : isiD .tuple (.str s) = some false := rfl
theorem isi_tuple_tup (xs : List D) : isiD .tuple (.tup xs) = some true := rfl
theorem isi_tuple_lst (xs : List D) : isiD .tuple (.lst xs) = some false := rfl
theorem isi_tuple_dic (ks : List Ky) (vs : List D) : isiD .tuple (.dic ks vs) = some false := rfl
theorem isi_list_non : isiD .list .non = some false := rfl
theorem isi_list_bl (b : Bool) : isiD .list (.bl b) = some false := rfl
theorem isi_list_int (i : Int) : isiD .list (.int i) = some false := rfl
theorem isi_list_str (s : Str) : isiD .list (.str s) = some false := rfl
theorem isi_list_tup (xs : List D) : isiD .list (.tup xs) = some false := rfl
theorem isi_list_lst (xs : List D) : isiD .list (.lst xs) = some true := rfl
theorem isi_list_dic (ks : List Ky) (vs : List D) : isiD .list (.dic ks vs) = some false := rfl
theorem isi_dict_non : isiD .dict .non = some false := rfl
theorem isi_dict_bl (b : Bool) : isiD .dict (.bl b) = some false := rfl
theorem isi_dict_int (i : Int) : isiD .dict (.int i) = some false := rfl
theorem isi_dict_str (s : Str) : isiD .dict (.str s) = some false := rfl
theorem isi_dict_tup (xs : List D) : isiD .dict (.tup xs) = some false := rfl
theorem isi_dict_lst (xs : List D) : isiD .dict (.lst xs) = some false := rfl
theorem isi_dict_dic (ks : List Ky) (vs : List D) : isiD .dict (.dic ks vs) = some true := rfl
theorem fz_val (d : D) : (W.val d).fz = some d := rfl
theorem fz_own (o : Ob) : (W.own o).fz = frz o := rfl
theorem frz_lst (xs : List D) : frz (.lst xs) = some (.lst xs) := rfl
theorem frz_dic (ks : List Ky) (vs : List D) : frz (.dic ks vs) = some (.dic ks vs) := rfl
theorem frz_ins (c : Nat) (fs : List Str) (vs : List D) : frz (.ins c fs vs) = some (.ins c fs vs) := rfl
theorem slot_val (d : D) : (W.val d).slot = .val d := rfl
theorem slot_own (o : Ob) : (W.own o).slot = .own o false := rfl
theorem isDic_dic (ks : List Ky) (vs : List D) : isDic (.dic ks vs) = true := rfl
theorem ownW_lst (xs : List D) : ownW (.lst xs) = .own (.lst xs) := rfl
theorem ownW_non : ownW .non = .val .non := rfl
theorem ownW_bl (b : Bool) : ownW (.bl b) = .val (.bl b) := rfl
theorem ownW_int (i : Int) : ownW (.int i) = .val (.int i) := rfl
theorem ownW_str (s : Str) : ownW (.str s) = .val (.str s) := rfl
theorem ownW_tup (xs : List D) : ownW (.tup xs) = .val (.tup xs) := rfl
theorem ownW_dic (ks : List Ky) (vs : List D) : ownW (.dic ks vs) = .val (.dic ks vs) := rfl
theorem len_tup (xs : List D) : biD .len [.tup xs] = some (.int (xs.length : Int)) := rfl
theorem len_lst (xs : List D) : biD .len [.lst xs] = some (.int (xs.length : Int)) := rfl
theorem len_scr (xs : List Int) : biD .len [.scr xs] = some (.int (xs.length : Int)) := rfl
theorem len_str {s : Str} (h : s.length ≤ lim) : biD .len [.str s] = some (.int (s.length : Int)) := by
  show ((if s.length ≤ lim then some s.length else none).map fun (n : Nat) => D.int (n : Int)) = _
  rw [if_pos h]
  rfl
theorem fA_nil (ρ : Env) : finAll [] [] ρ = some [] := rfl
theorem fA_var (i : Nat) (es : List E) (d : D) (ds : List D) (ρ : Env) : finAll (.var i :: es) (d :: ds) ρ = match peekV i ρ, finAll es ds ρ with
    | some x, some xs => some (x :: xs)
    | _, _ => none := rfl
theorem fA_none {e : E} (h : isVar e = none) (es : List E) (d : D) (ds : List D) (ρ : Env) : finAll (e :: es) (d :: ds) ρ = match finAll es ds ρ with
    | some xs => some (d :: xs)
    | _ => none := by
  show (match fin e d ρ, finAll es ds ρ with | some x, some xs => _ | _, _ => _) = _
  have : fin e d ρ = some d := by unfold fin; rw [h]
  rw [this]
  cases finAll es ds ρ <;> rfl
theorem iv_stk  : isVar (.stk ) = none := rfl
theorem iv_drI (i : Nat) (k : Str) : isVar (.drI i  k ) = none := rfl
theorem iv_drW (i : Nat) : isVar (.drW i ) = none := rfl
theorem iv_drP (i : Nat) : isVar (.drP i ) = none := rfl
theorem iv_lit (d : D) : isVar (.lit d ) = none := rfl
theorem iv_glob (g : Nat) : isVar (.glob g ) = none := rfl
theorem iv_tup (es : List E) : isVar (.tup es ) = none := rfl
theorem iv_lst (es : List E) : isVar (.lst es ) = none := rfl
theorem iv_dic (ks : List Str) (es : List E) : isVar (.dic ks  es ) = none := rfl
theorem iv_bin (op : BOp) (a b : E) : isVar (.bin op  a b ) = none := rfl
theorem iv_neg (a : E) : isVar (.neg a ) = none := rfl
theorem iv_cmp (op : COp) (a b : E) : isVar (.cmp op  a b ) = none := rfl
theorem iv_chain (o p : COp) (a b c : E) : isVar (.chain o p  a b c ) = none := rfl
theorem iv_and (a b : E) : isVar (.and a b ) = none := rfl
theorem iv_or (a b : E) : isVar (.or a b ) = none := rfl
theorem iv_not (a : E) : isVar (.not a ) = none := rfl
theorem iv_ifE (a b c : E) : isVar (.ifE a b c ) = none := rfl
theorem iv_idx (a b : E) : isVar (.idx a b ) = none := rfl
theorem iv_slice (a : E) (l h : Option E) : isVar (.slice a  l h ) = none := rfl
theorem iv_rev (a : E) : isVar (.rev a ) = none := rfl
theorem iv_attr (a : E) (f : Str) : isVar (.attr a  f ) = none := rfl
theorem iv_call (f : Nat) (as : List Ar) : isVar (.call f  as ) = none := rfl
theorem iv_meth (o : E) (m : Str) (es : List E) : isVar (.meth o  m  es ) = none := rfl
theorem iv_make (c : Nat) (es : List E) : isVar (.make c  es ) = none := rfl
theorem iv_bi (b : BI) (es : List E) : isVar (.bi b  es ) = none := rfl
theorem iv_isi (e : E) (t : Ty) : isVar (.isi e  t ) = none := rfl
theorem iv_bm (m : BM) (o : E) (es : List E) : isVar (.bm m  o  es ) = none := rfl
theorem iv_lc (p : Pat) (it : It) (cs : List E) (e : E) (own : List Nat) : isVar (.lc p  it  cs  e  own ) = none := rfl
theorem iv_dc (p : Pat) (it : It) (k v : E) (own : List Nat) : isVar (.dc p  it  k v  own ) = none := rfl
theorem cmp_lt (i j : Int) : cmpD .lt (.int i) (.int j) = some (decide (i < j)) := rfl
theorem cmp_le (i j : Int) : cmpD .le (.int i) (.int j) = some (decide (i ≤ j)) := rfl
theorem cmp_gt (i j : Int) : cmpD .gt (.int i) (.int j) = some (decide (j < i)) := rfl
theorem cmp_ge (i j : Int) : cmpD .ge (.int i) (.int j) = some (decide (j ≤ i)) := rfl
theorem eq_int (i j : Int) : eqD (.int i) (.int j) = some (i == j) := rfl
theorem eq_str (x y : Str) : eqD (.str x) (.str y) = some (x == y) := rfl
theorem eq_bl (x y : Bool) : eqD (.bl x) (.bl y) = some (x == y) := rfl
theorem cmp_eq (a b : D) : cmpD .eq a b = eqD a b := rfl
theorem cmp_ne (a b : D) : cmpD .ne a b = (eqD a b).map (! ·) := rfl
theorem map_s {α β : Type} (f : α → β) (a : α) : (some a).map f = some (f a) := rfl
theorem eq_tup_nil (xs : List D) : eqD (.tup xs) (.tup []) = some xs.isEmpty := by
  cases xs <;> rfl
theorem eq_lst_nil (xs : List D) : eqD (.lst xs) (.lst []) = some xs.isEmpty := by
  cases xs <;> rfl
theorem eq_non_nilT : eqD .non (.tup []) = some false := rfl
theorem eq_bl_nilT (b : Bool) : eqD (.bl b) (.tup []) = some false := rfl
theorem eq_int_nilT (i : Int) : eqD (.int i) (.tup []) = some false := rfl
theorem eq_str_nilT (s : Str) : eqD (.str s) (.tup []) = some false := rfl
theorem eq_lst_nilT (xs : List D) : eqD (.lst xs) (.tup []) = some false := rfl
theorem is_non : cmpD .is .non .non = some true := rfl
theorem isnot_non : cmpD .isnot .non .non = some false := rfl
theorem is_bl (b : Bool) : cmpD .is (.bl b) .non = some false := rfl
theorem isnot_bl (b : Bool) : cmpD .isnot (.bl b) .non = some true := rfl
theorem is_int (i : Int) : cmpD .is (.int i) .non = some false := rfl
theorem isnot_int (i : Int) : cmpD .isnot (.int i) .non = some true := rfl
theorem is_str (s : Str) : cmpD .is (.str s) .non = some false := rfl
theorem isnot_str (s : Str) : cmpD .isnot (.str s) .non = some true := rfl
theorem is_tup (xs : List D) : cmpD .is (.tup xs) .non = some false := rfl
theorem isnot_tup (xs : List D) : cmpD .isnot (.tup xs) .non = some true := rfl
theorem is_lst (xs : List D) : cmpD .is (.lst xs) .non = some false := rfl
theorem isnot_lst (xs : List D) : cmpD .isnot (.lst xs) .non = some true := rfl
theorem is_dic (ks : List Ky) (vs : List D) : cmpD .is (.dic ks vs) .non = some false := rfl
theorem isnot_dic (ks : List Ky) (vs : List D) : cmpD .isnot (.dic ks vs) .non = some true := rfl
theorem cmp_in (a b : D) : cmpD .isin a b = inD a b := rfl
theorem cmp_notin (a b : D) : cmpD .notin a b = (inD a b).map (! ·) := rfl
theorem idx_t0 (x : D) (r : List D) : idxD (.tup (x :: r)) (.int 0) = some x := by
  show itemAt (x :: r) 0 = _
  unfold itemAt place
  simp
theorem idx_t1 (x y : D) (r : List D) : idxD (.tup (x :: y :: r)) (.int 1) = some y := by
  show itemAt (x :: y :: r) 1 = _
  unfold itemAt place
  have h : (1 : Int) < ((x :: y :: r).length : Int) := by simp only [List.length_cons]; omega
  rw [if_pos (by decide), if_pos h]
  rfl
theorem idx_t2 (x0 x1 x2 : D) (r : List D) : idxD (.tup (x0 :: x1 :: x2 :: r)) (.int 2) = some x2 := by
  show itemAt (x0 :: x1 :: x2 :: r) 2 = _
  unfold itemAt place
  have h : (2 : Int) < ((x0 :: x1 :: x2 :: r).length : Int) := by simp only [List.length_cons]; omega
  rw [if_pos (by decide), if_pos h]
  rfl
theorem idx_t3 (x0 x1 x2 x3 : D) (r : List D) : idxD (.tup (x0 :: x1 :: x2 :: x3 :: r)) (.int 3) = some x3 := by
  show itemAt (x0 :: x1 :: x2 :: x3 :: r) 3 = _
  unfold itemAt place
  have h : (3 : Int) < ((x0 :: x1 :: x2 :: x3 :: r).length : Int) := by simp only [List.length_cons]; omega
  rw [if_pos (by decide), if_pos h]
  rfl
theorem idx_t4 (x0 x1 x2 x3 x4 : D) (r : List D) : idxD (.tup (x0 :: x1 :: x2 :: x3 :: x4 :: r)) (.int 4) = some x4 := by
  show itemAt (x0 :: x1 :: x2 :: x3 :: x4 :: r) 4 = _
  unfold itemAt place
  have h : (4 : Int) < ((x0 :: x1 :: x2 :: x3 :: x4 :: r).length : Int) := by simp only [List.length_cons]; omega
  rw [if_pos (by decide), if_pos h]
  rfl
theorem idx_t5 (x0 x1 x2 x3 x4 x5 : D) (r : List D) : idxD (.tup (x0 :: x1 :: x2 :: x3 :: x4 :: x5 :: r)) (.int 5) = some x5 := by
  show itemAt (x0 :: x1 :: x2 :: x3 :: x4 :: x5 :: r) 5 = _
  unfold itemAt place
  have h : (5 : Int) < ((x0 :: x1 :: x2 :: x3 :: x4 :: x5 :: r).length : Int) := by simp only [List.length_cons]; omega
  rw [if_pos (by decide), if_pos h]
  rfl
theorem op_stk  (mm : M W) (ρ : Env) : opd (.stk ) mm ρ = bndR (mm ρ) fun w => lift w.fz := opd_none rfl mm ρ
theorem f1_stk  (xx : D) (kk : D → M W) (ρ : Env) : fin1 (.stk ) xx kk ρ = kk xx ρ := fin1_none rfl xx kk ρ
theorem fa_stk  (rr : List E) (dd : D) (ds : List D) (ρ : Env) : finAll (.stk  :: rr) (dd :: ds) ρ = match finAll rr ds ρ with
    | some xs => some (dd :: xs)
    | _ => none := fA_none rfl rr dd ds ρ
theorem op_drI (i : Nat) (k : Str) (mm : M W) (ρ : Env) : opd (.drI i  k ) mm ρ = bndR (mm ρ) fun w => lift w.fz := opd_none rfl mm ρ
theorem f1_drI (i : Nat) (k : Str) (xx : D) (kk : D → M W) (ρ : Env) : fin1 (.drI i  k ) xx kk ρ = kk xx ρ := fin1_none rfl xx kk ρ
theorem fa_drI (i : Nat) (k : Str) (rr : List E) (dd : D) (ds : List D) (ρ : Env) : finAll (.drI i  k  :: rr) (dd :: ds) ρ = match finAll rr ds ρ with
    | some xs => some (dd :: xs)
    | _ => none := fA_none rfl rr dd ds ρ
theorem op_drW (i : Nat) (mm : M W) (ρ : Env) : opd (.drW i ) mm ρ = bndR (mm ρ) fun w => lift w.fz := opd_none rfl mm ρ
theorem f1_drW (i : Nat) (xx : D) (kk : D → M W) (ρ : Env) : fin1 (.drW i ) xx kk ρ = kk xx ρ := fin1_none rfl xx kk ρ
theorem fa_drW (i : Nat) (rr : List E) (dd : D) (ds : List D) (ρ : Env) : finAll (.drW i  :: rr) (dd :: ds) ρ = match finAll rr ds ρ with
    | some xs => some (dd :: xs)
    | _ => none := fA_none rfl rr dd ds ρ
theorem op_drP (i : Nat) (mm : M W) (ρ : Env) : opd (.drP i ) mm ρ = bndR (mm ρ) fun w => lift w.fz := opd_none rfl mm ρ
theorem f1_drP (i : Nat) (xx : D) (kk : D → M W) (ρ : Env) : fin1 (.drP i ) xx kk ρ = kk xx ρ := fin1_none rfl xx kk ρ
theorem fa_drP (i : Nat) (rr : List E) (dd : D) (ds : List D) (ρ : Env) : finAll (.drP i  :: rr) (dd :: ds) ρ = match finAll rr ds ρ with
    | some xs => some (dd :: xs)
    | _ => none := fA_none rfl rr dd ds ρ
theorem op_lit (d : D) (mm : M W) (ρ : Env) : opd (.lit d ) mm ρ = bndR (mm ρ) fun w => lift w.fz := opd_none rfl mm ρ
theorem f1_lit (d : D) (xx : D) (kk : D → M W) (ρ : Env) : fin1 (.lit d ) xx kk ρ = kk xx ρ := fin1_none rfl xx kk ρ
theorem fa_lit (d : D) (rr : List E) (dd : D) (ds : List D) (ρ : Env) : finAll (.lit d  :: rr) (dd :: ds) ρ = match finAll rr ds ρ with
    | some xs => some (dd :: xs)
    | _ => none := fA_none rfl rr dd ds ρ
theorem op_glob (g : Nat) (mm : M W) (ρ : Env) : opd (.glob g ) mm ρ = bndR (mm ρ) fun w => lift w.fz := opd_none rfl mm ρ
theorem f1_glob (g : Nat) (xx : D) (kk : D → M W) (ρ : Env) : fin1 (.glob g ) xx kk ρ = kk xx ρ := fin1_none rfl xx kk ρ
theorem fa_glob (g : Nat) (rr : List E) (dd : D) (ds : List D) (ρ : Env) : finAll (.glob g  :: rr) (dd :: ds) ρ = match finAll rr ds ρ with
    | some xs => some (dd :: xs)
    | _ => none := fA_none rfl rr dd ds ρ
theorem op_tup (es : List E) (mm : M W) (ρ : Env) : opd (.tup es ) mm ρ = bndR (mm ρ) fun w => lift w.fz := opd_none rfl mm ρ
theorem f1_tup (es : List E) (xx : D) (kk : D → M W) (ρ : Env) : fin1 (.tup es ) xx kk ρ = kk xx ρ := fin1_none rfl xx kk ρ
theorem fa_tup (es : List E) (rr : List E) (dd : D) (ds : List D) (ρ : Env) : finAll (.tup es  :: rr) (dd :: ds) ρ = match finAll rr ds ρ with
    | some xs => some (dd :: xs)
    | _ => none := fA_none rfl rr dd ds ρ
theorem op_lst (es : List E) (mm : M W) (ρ : Env) : opd (.lst es ) mm ρ = bndR (mm ρ) fun w => lift w.fz := opd_none rfl mm ρ
theorem f1_lst (es : List E) (xx : D) (kk : D → M W) (ρ : Env) : fin1 (.lst es ) xx kk ρ = kk xx ρ := fin1_none rfl xx kk ρ
theorem fa_lst (es : List E) (rr : List E) (dd : D) (ds : List D) (ρ : Env) : finAll (.lst es  :: rr) (dd :: ds) ρ = match finAll rr ds ρ with
    | some xs => some (dd :: xs)
    | _ => none := fA_none rfl rr dd ds ρ
theorem op_dic (ks : List Str) (es : List E) (mm : M W) (ρ : Env) : opd (.dic ks  es ) mm ρ = bndR (mm ρ) fun w => lift w.fz := opd_none rfl mm ρ
theorem f1_dic (ks : List Str) (es : List E) (xx : D) (kk : D → M W) (ρ : Env) : fin1 (.dic ks  es ) xx kk ρ = kk xx ρ := fin1_none rfl xx kk ρ
theorem fa_dic (ks : List Str) (es : List E) (rr : List E) (dd : D) (ds : List D) (ρ : Env) : finAll (.dic ks  es  :: rr) (dd :: ds) ρ = match finAll rr ds ρ with
    | some xs => some (dd :: xs)
    | _ => none := fA_none rfl rr dd ds ρ
theorem op_bin (op : BOp) (a b : E) (mm : M W) (ρ : Env) : opd (.bin op  a b ) mm ρ = bndR (mm ρ) fun w => lift w.fz := opd_none rfl mm ρ
theorem f1_bin (op : BOp) (a b : E) (xx : D) (kk : D → M W) (ρ : Env) : fin1 (.bin op  a b ) xx kk ρ = kk xx ρ := fin1_none rfl xx kk ρ
theorem fa_bin (op : BOp) (a b : E) (rr : List E) (dd : D) (ds : List D) (ρ : Env) : finAll (.bin op  a b  :: rr) (dd :: ds) ρ = match finAll rr ds ρ with
    | some xs => some (dd :: xs)
    | _ => none := fA_none rfl rr dd ds ρ
theorem op_neg (a : E) (mm : M W) (ρ : Env) : opd (.neg a ) mm ρ = bndR (mm ρ) fun w => lift w.fz := opd_none rfl mm ρ
theorem f1_neg (a : E) (xx : D) (kk : D → M W) (ρ : Env) : fin1 (.neg a ) xx kk ρ = kk xx ρ := fin1_none rfl xx kk ρ
theorem fa_neg (a : E) (rr : List E) (dd : D) (ds : List D) (ρ : Env) : finAll (.neg a  :: rr) (dd :: ds) ρ = match finAll rr ds ρ with
    | some xs => some (dd :: xs)
    | _ => none := fA_none rfl rr dd ds ρ
theorem op_cmp (op : COp) (a b : E) (mm : M W) (ρ : Env) : opd (.cmp op  a b ) mm ρ = bndR (mm ρ) fun w => lift w.fz := opd_none rfl mm ρ
theorem f1_cmp (op : COp) (a b : E) (xx : D) (kk : D → M W) (ρ : Env) : fin1 (.cmp op  a b ) xx kk ρ = kk xx ρ := fin1_none rfl xx kk ρ
theorem fa_cmp (op : COp) (a b : E) (rr : List E) (dd : D) (ds : List D) (ρ : Env) : finAll (.cmp op  a b  :: rr) (dd :: ds) ρ = match finAll rr ds ρ with
    | some xs => some (dd :: xs)
    | _ => none := fA_none rfl rr dd ds ρ
theorem op_chain (o p : COp) (a b c : E) (mm : M W) (ρ : Env) : opd (.chain o p  a b c ) mm ρ = bndR (mm ρ) fun w => lift w.fz := opd_none rfl mm ρ
theorem f1_chain (o p : COp) (a b c : E) (xx : D) (kk : D → M W) (ρ : Env) : fin1 (.chain o p  a b c ) xx kk ρ = kk xx ρ := fin1_none rfl xx kk ρ
theorem fa_chain (o p : COp) (a b c : E) (rr : List E) (dd : D) (ds : List D) (ρ : Env) : finAll (.chain o p  a b c  :: rr) (dd :: ds) ρ = match finAll rr ds ρ with
    | some xs => some (dd :: xs)
    | _ => none := fA_none rfl rr dd ds ρ
theorem op_and (a b : E) (mm : M W) (ρ : Env) : opd (.and a b ) mm ρ = bndR (mm ρ) fun w => lift w.fz := opd_none rfl mm ρ
theorem f1_and (a b : E) (xx : D) (kk : D → M W) (ρ : Env) : fin1 (.and a b ) xx kk ρ = kk xx ρ := fin1_none rfl xx kk ρ
theorem fa_and (a b : E) (rr : List E) (dd : D) (ds : List D) (ρ : Env) : finAll (.and a b  :: rr) (dd :: ds) ρ = match finAll rr ds ρ with
    | some xs => some (dd :: xs)
    | _ => none := fA_none rfl rr dd ds ρ
theorem op_or (a b : E) (mm : M W) (ρ : Env) : opd (.or a b ) mm ρ = bndR (mm ρ) fun w => lift w.fz := opd_none rfl mm ρ
theorem f1_or (a b : E) (xx : D) (kk : D → M W) (ρ : Env) : fin1 (.or a b ) xx kk ρ = kk xx ρ := fin1_none rfl xx kk ρ
theorem fa_or (a b : E) (rr : List E) (dd : D) (ds : List D) (ρ : Env) : finAll (.or a b  :: rr) (dd :: ds) ρ = match finAll rr ds ρ with
    | some xs => some (dd :: xs)
    | _ => none := fA_none rfl rr dd ds ρ
theorem op_not (a : E) (mm : M W) (ρ : Env) : opd (.not a ) mm ρ = bndR (mm ρ) fun w => lift w.fz := opd_none rfl mm ρ
theorem f1_not (a : E) (xx : D) (kk : D → M W) (ρ : Env) : fin1 (.not a ) xx kk ρ = kk xx ρ := fin1_none rfl xx kk ρ
theorem fa_not (a : E) (rr : List E) (dd : D) (ds : List D) (ρ : Env) : finAll (.not a  :: rr) (dd :: ds) ρ = match finAll rr ds ρ with
    | some xs => some (dd :: xs)
    | _ => none := fA_none rfl rr dd ds ρ
theorem op_ifE (a b c : E) (mm : M W) (ρ : Env) : opd (.ifE a b c ) mm ρ = bndR (mm ρ) fun w => lift w.fz := opd_none rfl mm ρ
theorem f1_ifE (a b c : E) (xx : D) (kk : D → M W) (ρ : Env) : fin1 (.ifE a b c ) xx kk ρ = kk xx ρ := fin1_none rfl xx kk ρ
theorem fa_ifE (a b c : E) (rr : List E) (dd : D) (ds : List D) (ρ : Env) : finAll (.ifE a b c  :: rr) (dd :: ds) ρ = match finAll rr ds ρ with
    | some xs => some (dd :: xs)
    | _ => none := fA_none rfl rr dd ds ρ
theorem op_idx (a b : E) (mm : M W) (ρ : Env) : opd (.idx a b ) mm ρ = bndR (mm ρ) fun w => lift w.fz := opd_none rfl mm ρ
theorem f1_idx (a b : E) (xx : D) (kk : D → M W) (ρ : Env) : fin1 (.idx a b ) xx kk ρ = kk xx ρ := fin1_none rfl xx kk ρ
theorem fa_idx (a b : E) (rr : List E) (dd : D) (ds : List D) (ρ : Env) : finAll (.idx a b  :: rr) (dd :: ds) ρ = match finAll rr ds ρ with
    | some xs => some (dd :: xs)
    | _ => none := fA_none rfl rr dd ds ρ
theorem op_slice (a : E) (l h : Option E) (mm : M W) (ρ : Env) : opd (.slice a  l h ) mm ρ = bndR (mm ρ) fun w => lift w.fz := opd_none rfl mm ρ
theorem f1_slice (a : E) (l h : Option E) (xx : D) (kk : D → M W) (ρ : Env) : fin1 (.slice a  l h ) xx kk ρ = kk xx ρ := fin1_none rfl xx kk ρ
theorem fa_slice (a : E) (l h : Option E) (rr : List E) (dd : D) (ds : List D) (ρ : Env) : finAll (.slice a  l h  :: rr) (dd :: ds) ρ = match finAll rr ds ρ with
    | some xs => some (dd :: xs)
    | _ => none := fA_none rfl rr dd ds ρ
theorem op_rev (a : E) (mm : M W) (ρ : Env) : opd (.rev a ) mm ρ = bndR (mm ρ) fun w => lift w.fz := opd_none rfl mm ρ
theorem f1_rev (a : E) (xx : D) (kk : D → M W) (ρ : Env) : fin1 (.rev a ) xx kk ρ = kk xx ρ := fin1_none rfl xx kk ρ
theorem fa_rev (a : E) (rr : List E) (dd : D) (ds : List D) (ρ : Env) : finAll (.rev a  :: rr) (dd :: ds) ρ = match finAll rr ds ρ with
    | some xs => some (dd :: xs)
    | _ => none := fA_none rfl rr dd ds ρ
theorem op_attr (a : E) (f : Str) (mm : M W) (ρ : Env) : opd (.attr a  f ) mm ρ = bndR (mm ρ) fun w => lift w.fz := opd_none rfl mm ρ
theorem f1_attr (a : E) (f : Str) (xx : D) (kk : D → M W) (ρ : Env) : fin1 (.attr a  f ) xx kk ρ = kk xx ρ := fin1_none rfl xx kk ρ
theorem fa_attr (a : E) (f : Str) (rr : List E) (dd : D) (ds : List D) (ρ : Env) : finAll (.attr a  f  :: rr) (dd :: ds) ρ = match finAll rr ds ρ with
    | some xs => some (dd :: xs)
    | _ => none := fA_none rfl rr dd ds ρ
theorem op_call (f : Nat) (as : List Ar) (mm : M W) (ρ : Env) : opd (.call f  as ) mm ρ = bndR (mm ρ) fun w => lift w.fz := opd_none rfl mm ρ
theorem f1_call (f : Nat) (as : List Ar) (xx : D) (kk : D → M W) (ρ : Env) : fin1 (.call f  as ) xx kk ρ = kk xx ρ := fin1_none rfl xx kk ρ
theorem fa_call (f : Nat) (as : List Ar) (rr : List E) (dd : D) (ds : List D) (ρ : Env) : finAll (.call f  as  :: rr) (dd :: ds) ρ = match finAll rr ds ρ with
    | some xs => some (dd :: xs)
    | _ => none := fA_none rfl rr dd ds ρ
theorem op_meth (o : E) (m : Str) (es : List E) (mm : M W) (ρ : Env) : opd (.meth o  m  es ) mm ρ = bndR (mm ρ) fun w => lift w.fz := opd_none rfl mm ρ
theorem f1_meth (o : E) (m : Str) (es : List E) (xx : D) (kk : D → M W) (ρ : Env) : fin1 (.meth o  m  es ) xx kk ρ = kk xx ρ := fin1_none rfl xx kk ρ
theorem fa_meth (o : E) (m : Str) (es : List E) (rr : List E) (dd : D) (ds : List D) (ρ : Env) : finAll (.meth o  m  es  :: rr) (dd :: ds) ρ = match finAll rr ds ρ with
    | some xs => some (dd :: xs)
    | _ => none := fA_none rfl rr dd ds ρ
theorem op_make (c : Nat) (es : List E) (mm : M W) (ρ : Env) : opd (.make c  es ) mm ρ = bndR (mm ρ) fun w => lift w.fz := opd_none rfl mm ρ
theorem f1_make (c : Nat) (es : List E) (xx : D) (kk : D → M W) (ρ : Env) : fin1 (.make c  es ) xx kk ρ = kk xx ρ := fin1_none rfl xx kk ρ
theorem fa_make (c : Nat) (es : List E) (rr : List E) (dd : D) (ds : List D) (ρ : Env) : finAll (.make c  es  :: rr) (dd :: ds) ρ = match finAll rr ds ρ with
    | some xs => some (dd :: xs)
    | _ => none := fA_none rfl rr dd ds ρ
theorem op_bi (b : BI) (es : List E) (mm : M W) (ρ : Env) : opd (.bi b  es ) mm ρ = bndR (mm ρ) fun w => lift w.fz := opd_none rfl mm ρ
theorem f1_bi (b : BI) (es : List E) (xx : D) (kk : D → M W) (ρ : Env) : fin1 (.bi b  es ) xx kk ρ = kk xx ρ := fin1_none rfl xx kk ρ
theorem fa_bi (b : BI) (es : List E) (rr : List E) (dd : D) (ds : List D) (ρ : Env) : finAll (.bi b  es  :: rr) (dd :: ds) ρ = match finAll rr ds ρ with
    | some xs => some (dd :: xs)
    | _ => none := fA_none rfl rr dd ds ρ
theorem op_isi (e : E) (t : Ty) (mm : M W) (ρ : Env) : opd (.isi e  t ) mm ρ = bndR (mm ρ) fun w => lift w.fz := opd_none rfl mm ρ
theorem f1_isi (e : E) (t : Ty) (xx : D) (kk : D → M W) (ρ : Env) : fin1 (.isi e  t ) xx kk ρ = kk xx ρ := fin1_none rfl xx kk ρ
theorem fa_isi (e : E) (t : Ty) (rr : List E) (dd : D) (ds : List D) (ρ : Env) : finAll (.isi e  t  :: rr) (dd :: ds) ρ = match finAll rr ds ρ with
    | some xs => some (dd :: xs)
    | _ => none := fA_none rfl rr dd ds ρ
theorem op_bm (m : BM) (o : E) (es : List E) (mm : M W) (ρ : Env) : opd (.bm m  o  es ) mm ρ = bndR (mm ρ) fun w => lift w.fz := opd_none rfl mm ρ
theorem f1_bm (m : BM) (o : E) (es : List E) (xx : D) (kk : D → M W) (ρ : Env) : fin1 (.bm m  o  es ) xx kk ρ = kk xx ρ := fin1_none rfl xx kk ρ
theorem fa_bm (m : BM) (o : E) (es : List E) (rr : List E) (dd : D) (ds : List D) (ρ : Env) : finAll (.bm m  o  es  :: rr) (dd :: ds) ρ = match finAll rr ds ρ with
    | some xs => some (dd :: xs)
    | _ => none := fA_none rfl rr dd ds ρ
theorem op_lc (p : Pat) (it : It) (cs : List E) (e : E) (own : List Nat) (mm : M W) (ρ : Env) : opd (.lc p  it  cs  e  own ) mm ρ = bndR (mm ρ) fun w => lift w.fz := opd_none rfl mm ρ
theorem f1_lc (p : Pat) (it : It) (cs : List E) (e : E) (own : List Nat) (xx : D) (kk : D → M W) (ρ : Env) : fin1 (.lc p  it  cs  e  own ) xx kk ρ = kk xx ρ := fin1_none rfl xx kk ρ
theorem fa_lc (p : Pat) (it : It) (cs : List E) (e : E) (own : List Nat) (rr : List E) (dd : D) (ds : List D) (ρ : Env) : finAll (.lc p  it  cs  e  own  :: rr) (dd :: ds) ρ = match finAll rr ds ρ with
    | some xs => some (dd :: xs)
    | _ => none := fA_none rfl rr dd ds ρ
theorem op_dc (p : Pat) (it : It) (k v : E) (own : List Nat) (mm : M W) (ρ : Env) : opd (.dc p  it  k v  own ) mm ρ = bndR (mm ρ) fun w => lift w.fz := opd_none rfl mm ρ
theorem f1_dc (p : Pat) (it : It) (k v : E) (own : List Nat) (xx : D) (kk : D → M W) (ρ : Env) : fin1 (.dc p  it  k v  own ) xx kk ρ = kk xx ρ := fin1_none rfl xx kk ρ
theorem fa_dc (p : Pat) (it : It) (k v : E) (own : List Nat) (rr : List E) (dd : D) (ds : List D) (ρ : Env) : finAll (.dc p  it  k v  own  :: rr) (dd :: ds) ρ = match finAll rr ds ρ with
    | some xs => some (dd :: xs)
    | _ => none := fA_none rfl rr dd ds ρ
/-! ### slots by number -/
theorem rd_0 (d : D) (ρ : Env) : readV 0 (.val d :: ρ) = some (.ok d, .val d :: ρ) := rfl
theorem rl_0 (xs : List D) (ρ : Env) : readV 0 (.own (.lst xs) false :: ρ) = some (.ok (.lst xs), .val (.lst xs) :: ρ) := rfl
theorem rc_0 (ks : List Ky) (xs : List D) (ρ : Env) : readV 0 (.own (.dic ks xs) false :: ρ) = some (.ok (.dic ks xs), .val (.dic ks xs) :: ρ) := rfl
theorem ri_0 (c : Nat) (fs : List Str) (xs : List D) (ρ : Env) : readV 0 (.own (.ins c fs xs) false :: ρ) = some (.ok (.ins c fs xs), .val (.ins c fs xs) :: ρ) := rfl
theorem sv_0 (d : D) (w : W) (ρ : Env) : setV 0 w (.val d :: ρ) = some (.ok (), w.slot :: ρ) := rfl
theorem su_0 (w : W) (ρ : Env) : setV 0 w (.un :: ρ) = some (.ok (), w.slot :: ρ) := rfl
theorem so_0 (o : Ob) (w : W) (ρ : Env) : setV 0 w (.own o false :: ρ) = some (.ok (), w.slot :: ρ) := rfl
theorem cg_0 (f : Ob → Option Ob) (o : Ob) (m : Bool) (ρ : Env) : chg 0 f (.own o m :: ρ) = match f o with
    | some o' => some (.ok (), .own o' m :: ρ)
    | none => none := rfl
theorem hd_0 (p : Ob → Bool) (o : Ob) (m : Bool) (ρ : Env) : holds 0 p (.own o m :: ρ) = if p o then some (.ok (), .own o m :: ρ) else none := rfl
theorem io_0 (o : Ob) (m : Bool) (ρ : Env) : hasIo 0 (.own o m :: ρ) = some (.ok (), .own o m :: ρ) := rfl
theorem cd_0_0 (C : Cfg) (f : Nat) (o : Ob) (m : Bool) (ρ : Env) : callM C f [.io 0] (.own o m :: ρ) = gotD 0 (C.call f [.o o]) (.own o m :: ρ) := rfl
theorem cd_0_1 (C : Cfg) (f : Nat) (o : Ob) (m : Bool) (x0 : D) (ρ : Env) : callM C f [.io 0, .v x0] (.own o m :: ρ) = gotD 0 (C.call f [.o o, .v x0]) (.own o m :: ρ) := rfl
theorem cd_0_2 (C : Cfg) (f : Nat) (o : Ob) (m : Bool) (x0 x1 : D) (ρ : Env) : callM C f [.io 0, .v x0, .v x1] (.own o m :: ρ) = gotD 0 (C.call f [.o o, .v x0, .v x1]) (.own o m :: ρ) := rfl
theorem cd_0_3 (C : Cfg) (f : Nat) (o : Ob) (m : Bool) (x0 x1 x2 : D) (ρ : Env) : callM C f [.io 0, .v x0, .v x1, .v x2] (.own o m :: ρ) = gotD 0 (C.call f [.o o, .v x0, .v x1, .v x2]) (.own o m :: ρ) := rfl
theorem gd_0 (o o' : Ob) (m : Bool) (w : W) (ρ : Env) : gotD 0 (some ⟨.ok w, [o']⟩) (.own o m :: ρ) = some (.ok w, .own o' m :: ρ) := rfl
theorem rd_1 (s0 : Slot) (d : D) (ρ : Env) : readV 1 (s0 :: .val d :: ρ) = some (.ok d, s0 :: .val d :: ρ) := rfl
theorem rl_1 (s0 : Slot) (xs : List D) (ρ : Env) : readV 1 (s0 :: .own (.lst xs) false :: ρ) = some (.ok (.lst xs), s0 :: .val (.lst xs) :: ρ) := rfl
theorem rc_1 (s0 : Slot) (ks : List Ky) (xs : List D) (ρ : Env) : readV 1 (s0 :: .own (.dic ks xs) false :: ρ) = some (.ok (.dic ks xs), s0 :: .val (.dic ks xs) :: ρ) := rfl
theorem ri_1 (s0 : Slot) (c : Nat) (fs : List Str) (xs : List D) (ρ : Env) : readV 1 (s0 :: .own (.ins c fs xs) false :: ρ) = some (.ok (.ins c fs xs), s0 :: .val (.ins c fs xs) :: ρ) := rfl
theorem sv_1 (s0 : Slot) (d : D) (w : W) (ρ : Env) : setV 1 w (s0 :: .val d :: ρ) = some (.ok (), s0 :: w.slot :: ρ) := rfl
theorem su_1 (s0 : Slot) (w : W) (ρ : Env) : setV 1 w (s0 :: .un :: ρ) = some (.ok (), s0 :: w.slot :: ρ) := rfl
theorem so_1 (s0 : Slot) (o : Ob) (w : W) (ρ : Env) : setV 1 w (s0 :: .own o false :: ρ) = some (.ok (), s0 :: w.slot :: ρ) := rfl
theorem cg_1 (s0 : Slot) (f : Ob → Option Ob) (o : Ob) (m : Bool) (ρ : Env) : chg 1 f (s0 :: .own o m :: ρ) = match f o with
    | some o' => some (.ok (), s0 :: .own o' m :: ρ)
    | none => none := rfl
theorem hd_1 (s0 : Slot) (p : Ob → Bool) (o : Ob) (m : Bool) (ρ : Env) : holds 1 p (s0 :: .own o m :: ρ) = if p o then some (.ok (), s0 :: .own o m :: ρ) else none := rfl
theorem io_1 (s0 : Slot) (o : Ob) (m : Bool) (ρ : Env) : hasIo 1 (s0 :: .own o m :: ρ) = some (.ok (), s0 :: .own o m :: ρ) := rfl
theorem cd_1_0 (C : Cfg) (f : Nat) (s0 : Slot) (o : Ob) (m : Bool) (ρ : Env) : callM C f [.io 1] (s0 :: .own o m :: ρ) = gotD 1 (C.call f [.o o]) (s0 :: .own o m :: ρ) := rfl
theorem cd_1_1 (C : Cfg) (f : Nat) (s0 : Slot) (o : Ob) (m : Bool) (x0 : D) (ρ : Env) : callM C f [.io 1, .v x0] (s0 :: .own o m :: ρ) = gotD 1 (C.call f [.o o, .v x0]) (s0 :: .own o m :: ρ) := rfl
theorem cd_1_2 (C : Cfg) (f : Nat) (s0 : Slot) (o : Ob) (m : Bool) (x0 x1 : D) (ρ : Env) : callM C f [.io 1, .v x0, .v x1] (s0 :: .own o m :: ρ) = gotD 1 (C.call f [.o o, .v x0, .v x1]) (s0 :: .own o m :: ρ) := rfl
theorem cd_1_3 (C : Cfg) (f : Nat) (s0 : Slot) (o : Ob) (m : Bool) (x0 x1 x2 : D) (ρ : Env) : callM C f [.io 1, .v x0, .v x1, .v x2] (s0 :: .own o m :: ρ) = gotD 1 (C.call f [.o o, .v x0, .v x1, .v x2]) (s0 :: .own o m :: ρ) := rfl
theorem gd_1 (s0 : Slot) (o o' : Ob) (m : Bool) (w : W) (ρ : Env) : gotD 1 (some ⟨.ok w, [o']⟩) (s0 :: .own o m :: ρ) = some (.ok w, s0 :: .own o' m :: ρ) := rfl
theorem rd_2 (s0 s1 : Slot) (d : D) (ρ : Env) : readV 2 (s0 :: s1 :: .val d :: ρ) = some (.ok d, s0 :: s1 :: .val d :: ρ) := rfl
theorem rl_2 (s0 s1 : Slot) (xs : List D) (ρ : Env) : readV 2 (s0 :: s1 :: .own (.lst xs) false :: ρ) = some (.ok (.lst xs), s0 :: s1 :: .val (.lst xs) :: ρ) := rfl
theorem rc_2 (s0 s1 : Slot) (ks : List Ky) (xs : List D) (ρ : Env) : readV 2 (s0 :: s1 :: .own (.dic ks xs) false :: ρ) = some (.ok (.dic ks xs), s0 :: s1 :: .val (.dic ks xs) :: ρ) := rfl
theorem ri_2 (s0 s1 : Slot) (c : Nat) (fs : List Str) (xs : List D) (ρ : Env) : readV 2 (s0 :: s1 :: .own (.ins c fs xs) false :: ρ) = some (.ok (.ins c fs xs), s0 :: s1 :: .val (.ins c fs xs) :: ρ) := rfl
theorem sv_2 (s0 s1 : Slot) (d : D) (w : W) (ρ : Env) : setV 2 w (s0 :: s1 :: .val d :: ρ) = some (.ok (), s0 :: s1 :: w.slot :: ρ) := rfl
theorem su_2 (s0 s1 : Slot) (w : W) (ρ : Env) : setV 2 w (s0 :: s1 :: .un :: ρ) = some (.ok (), s0 :: s1 :: w.slot :: ρ) := rfl
theorem so_2 (s0 s1 : Slot) (o : Ob) (w : W) (ρ : Env) : setV 2 w (s0 :: s1 :: .own o false :: ρ) = some (.ok (), s0 :: s1 :: w.slot :: ρ) := rfl
theorem cg_2 (s0 s1 : Slot) (f : Ob → Option Ob) (o : Ob) (m : Bool) (ρ : Env) : chg 2 f (s0 :: s1 :: .own o m :: ρ) = match f o with
    | some o' => some (.ok (), s0 :: s1 :: .own o' m :: ρ)
    | none => none := rfl
theorem hd_2 (s0 s1 : Slot) (p : Ob → Bool) (o : Ob) (m : Bool) (ρ : Env) : holds 2 p (s0 :: s1 :: .own o m :: ρ) = if p o then some (.ok (), s0 :: s1 :: .own o m :: ρ) else none := rfl
theorem io_2 (s0 s1 : Slot) (o : Ob) (m : Bool) (ρ : Env) : hasIo 2 (s0 :: s1 :: .own o m :: ρ) = some (.ok (), s0 :: s1 :: .own o m :: ρ) := rfl
theorem cd_2_0 (C : Cfg) (f : Nat) (s0 s1 : Slot) (o : Ob) (m : Bool) (ρ : Env) : callM C f [.io 2] (s0 :: s1 :: .own o m :: ρ) = gotD 2 (C.call f [.o o]) (s0 :: s1 :: .own o m :: ρ) := rfl
theorem cd_2_1 (C : Cfg) (f : Nat) (s0 s1 : Slot) (o : Ob) (m : Bool) (x0 : D) (ρ : Env) : callM C f [.io 2, .v x0] (s0 :: s1 :: .own o m :: ρ) = gotD 2 (C.call f [.o o, .v x0]) (s0 :: s1 :: .own o m :: ρ) := rfl
theorem cd_2_2 (C : Cfg) (f : Nat) (s0 s1 : Slot) (o : Ob) (m : Bool) (x0 x1 : D) (ρ : Env) : callM C f [.io 2, .v x0, .v x1] (s0 :: s1 :: .own o m :: ρ) = gotD 2 (C.call f [.o o, .v x0, .v x1]) (s0 :: s1 :: .own o m :: ρ) := rfl
theorem cd_2_3 (C : Cfg) (f : Nat) (s0 s1 : Slot) (o : Ob) (m : Bool) (x0 x1 x2 : D) (ρ : Env) : callM C f [.io 2, .v x0, .v x1, .v x2] (s0 :: s1 :: .own o m :: ρ) = gotD 2 (C.call f [.o o, .v x0, .v x1, .v x2]) (s0 :: s1 :: .own o m :: ρ) := rfl
theorem gd_2 (s0 s1 : Slot) (o o' : Ob) (m : Bool) (w : W) (ρ : Env) : gotD 2 (some ⟨.ok w, [o']⟩) (s0 :: s1 :: .own o m :: ρ) = some (.ok w, s0 :: s1 :: .own o' m :: ρ) := rfl
theorem rd_3 (s0 s1 s2 : Slot) (d : D) (ρ : Env) : readV 3 (s0 :: s1 :: s2 :: .val d :: ρ) = some (.ok d, s0 :: s1 :: s2 :: .val d :: ρ) := rfl
theorem rl_3 (s0 s1 s2 : Slot) (xs : List D) (ρ : Env) : readV 3 (s0 :: s1 :: s2 :: .own (.lst xs) false :: ρ) = some (.ok (.lst xs), s0 :: s1 :: s2 :: .val (.lst xs) :: ρ) := rfl
theorem rc_3 (s0 s1 s2 : Slot) (ks : List Ky) (xs : List D) (ρ : Env) : readV 3 (s0 :: s1 :: s2 :: .own (.dic ks xs) false :: ρ) = some (.ok (.dic ks xs), s0 :: s1 :: s2 :: .val (.dic ks xs) :: ρ) := rfl
theorem ri_3 (s0 s1 s2 : Slot) (c : Nat) (fs : List Str) (xs : List D) (ρ : Env) : readV 3 (s0 :: s1 :: s2 :: .own (.ins c fs xs) false :: ρ) = some (.ok (.ins c fs xs), s0 :: s1 :: s2 :: .val (.ins c fs xs) :: ρ) := rfl
theorem sv_3 (s0 s1 s2 : Slot) (d : D) (w : W) (ρ : Env) : setV 3 w (s0 :: s1 :: s2 :: .val d :: ρ) = some (.ok (), s0 :: s1 :: s2 :: w.slot :: ρ) := rfl
theorem su_3 (s0 s1 s2 : Slot) (w : W) (ρ : Env) : setV 3 w (s0 :: s1 :: s2 :: .un :: ρ) = some (.ok (), s0 :: s1 :: s2 :: w.slot :: ρ) := rfl
theorem so_3 (s0 s1 s2 : Slot) (o : Ob) (w : W) (ρ : Env) : setV 3 w (s0 :: s1 :: s2 :: .own o false :: ρ) = some (.ok (), s0 :: s1 :: s2 :: w.slot :: ρ) := rfl
theorem cg_3 (s0 s1 s2 : Slot) (f : Ob → Option Ob) (o : Ob) (m : Bool) (ρ : Env) : chg 3 f (s0 :: s1 :: s2 :: .own o m :: ρ) = match f o with
    | some o' => some (.ok (), s0 :: s1 :: s2 :: .own o' m :: ρ)
    | none => none := rfl
theorem hd_3 (s0 s1 s2 : Slot) (p : Ob → Bool) (o : Ob) (m : Bool) (ρ : Env) : holds 3 p (s0 :: s1 :: s2 :: .own o m :: ρ) = if p o then some (.ok (), s0 :: s1 :: s2 :: .own o m :: ρ) else none := rfl
theorem io_3 (s0 s1 s2 : Slot) (o : Ob) (m : Bool) (ρ : Env) : hasIo 3 (s0 :: s1 :: s2 :: .own o m :: ρ) = some (.ok (), s0 :: s1 :: s2 :: .own o m :: ρ) := rfl
theorem cd_3_0 (C : Cfg) (f : Nat) (s0 s1 s2 : Slot) (o : Ob) (m : Bool) (ρ : Env) : callM C f [.io 3] (s0 :: s1 :: s2 :: .own o m :: ρ) = gotD 3 (C.call f [.o o]) (s0 :: s1 :: s2 :: .own o m :: ρ) := rfl
theorem cd_3_1 (C : Cfg) (f : Nat) (s0 s1 s2 : Slot) (o : Ob) (m : Bool) (x0 : D) (ρ : Env) : callM C f [.io 3, .v x0] (s0 :: s1 :: s2 :: .own o m :: ρ) = gotD 3 (C.call f [.o o, .v x0]) (s0 :: s1 :: s2 :: .own o m :: ρ) := rfl
theorem cd_3_2 (C : Cfg) (f : Nat) (s0 s1 s2 : Slot) (o : Ob) (m : Bool) (x0 x1 : D) (ρ : Env) : callM C f [.io 3, .v x0, .v x1] (s0 :: s1 :: s2 :: .own o m :: ρ) = gotD 3 (C.call f [.o o, .v x0, .v x1]) (s0 :: s1 :: s2 :: .own o m :: ρ) := rfl
theorem cd_3_3 (C : Cfg) (f : Nat) (s0 s1 s2 : Slot) (o : Ob) (m : Bool) (x0 x1 x2 : D) (ρ : Env) : callM C f [.io 3, .v x0, .v x1, .v x2] (s0 :: s1 :: s2 :: .own o m :: ρ) = gotD 3 (C.call f [.o o, .v x0, .v x1, .v x2]) (s0 :: s1 :: s2 :: .own o m :: ρ) := rfl
theorem gd_3 (s0 s1 s2 : Slot) (o o' : Ob) (m : Bool) (w : W) (ρ : Env) : gotD 3 (some ⟨.ok w, [o']⟩) (s0 :: s1 :: s2 :: .own o m :: ρ) = some (.ok w, s0 :: s1 :: s2 :: .own o' m :: ρ) := rfl
theorem rd_4 (s0 s1 s2 s3 : Slot) (d : D) (ρ : Env) : readV 4 (s0 :: s1 :: s2 :: s3 :: .val d :: ρ) = some (.ok d, s0 :: s1 :: s2 :: s3 :: .val d :: ρ) := rfl
theorem rl_4 (s0 s1 s2 s3 : Slot) (xs : List D) (ρ : Env) : readV 4 (s0 :: s1 :: s2 :: s3 :: .own (.lst xs) false :: ρ) = some (.ok (.lst xs), s0 :: s1 :: s2 :: s3 :: .val (.lst xs) :: ρ) := rfl
theorem rc_4 (s0 s1 s2 s3 : Slot) (ks : List Ky) (xs : List D) (ρ : Env) : readV 4 (s0 :: s1 :: s2 :: s3 :: .own (.dic ks xs) false :: ρ) = some (.ok (.dic ks xs), s0 :: s1 :: s2 :: s3 :: .val (.dic ks xs) :: ρ) := rfl
theorem ri_4 (s0 s1 s2 s3 : Slot) (c : Nat) (fs : List Str) (xs : List D) (ρ : Env) : readV 4 (s0 :: s1 :: s2 :: s3 :: .own (.ins c fs xs) false :: ρ) = some (.ok (.ins c fs xs), s0 :: s1 :: s2 :: s3 :: .val (.ins c fs xs) :: ρ) := rfl
theorem sv_4 (s0 s1 s2 s3 : Slot) (d : D) (w : W) (ρ : Env) : setV 4 w (s0 :: s1 :: s2 :: s3 :: .val d :: ρ) = some (.ok (), s0 :: s1 :: s2 :: s3 :: w.slot :: ρ) := rfl
theorem su_4 (s0 s1 s2 s3 : Slot) (w : W) (ρ : Env) : setV 4 w (s0 :: s1 :: s2 :: s3 :: .un :: ρ) = some (.ok (), s0 :: s1 :: s2 :: s3 :: w.slot :: ρ) := rfl
theorem so_4 (s0 s1 s2 s3 : Slot) (o : Ob) (w : W) (ρ : Env) : setV 4 w (s0 :: s1 :: s2 :: s3 :: .own o false :: ρ) = some (.ok (), s0 :: s1 :: s2 :: s3 :: w.slot :: ρ) := rfl
theorem cg_4 (s0 s1 s2 s3 : Slot) (f : Ob → Option Ob) (o : Ob) (m : Bool) (ρ : Env) : chg 4 f (s0 :: s1 :: s2 :: s3 :: .own o m :: ρ) = match f o with
    | some o' => some (.ok (), s0 :: s1 :: s2 :: s3 :: .own o' m :: ρ)
    | none => none := rfl
theorem hd_4 (s0 s1 s2 s3 : Slot) (p : Ob → Bool) (o : Ob) (m : Bool) (ρ : Env) : holds 4 p (s0 :: s1 :: s2 :: s3 :: .own o m :: ρ) = if p o then some (.ok (), s0 :: s1 :: s2 :: s3 :: .own o m :: ρ) else none := rfl
theorem io_4 (s0 s1 s2 s3 : Slot) (o : Ob) (m : Bool) (ρ : Env) : hasIo 4 (s0 :: s1 :: s2 :: s3 :: .own o m :: ρ) = some (.ok (), s0 :: s1 :: s2 :: s3 :: .own o m :: ρ) := rfl
theorem cd_4_0 (C : Cfg) (f : Nat) (s0 s1 s2 s3 : Slot) (o : Ob) (m : Bool) (ρ : Env) : callM C f [.io 4] (s0 :: s1 :: s2 :: s3 :: .own o m :: ρ) = gotD 4 (C.call f [.o o]) (s0 :: s1 :: s2 :: s3 :: .own o m :: ρ) := rfl
theorem cd_4_1 (C : Cfg) (f : Nat) (s0 s1 s2 s3 : Slot) (o : Ob) (m : Bool) (x0 : D) (ρ : Env) : callM C f [.io 4, .v x0] (s0 :: s1 :: s2 :: s3 :: .own o m :: ρ) = gotD 4 (C.call f [.o o, .v x0]) (s0 :: s1 :: s2 :: s3 :: .own o m :: ρ) := rfl
theorem cd_4_2 (C : Cfg) (f : Nat) (s0 s1 s2 s3 : Slot) (o : Ob) (m : Bool) (x0 x1 : D) (ρ : Env) : callM C f [.io 4, .v x0, .v x1] (s0 :: s1 :: s2 :: s3 :: .own o m :: ρ) = gotD 4 (C.call f [.o o, .v x0, .v x1]) (s0 :: s1 :: s2 :: s3 :: .own o m :: ρ) := rfl
theorem cd_4_3 (C : Cfg) (f : Nat) (s0 s1 s2 s3 : Slot) (o : Ob) (m : Bool) (x0 x1 x2 : D) (ρ : Env) : callM C f [.io 4, .v x0, .v x1, .v x2] (s0 :: s1 :: s2 :: s3 :: .own o m :: ρ) = gotD 4 (C.call f [.o o, .v x0, .v x1, .v x2]) (s0 :: s1 :: s2 :: s3 :: .own o m :: ρ) := rfl
theorem gd_4 (s0 s1 s2 s3 : Slot) (o o' : Ob) (m : Bool) (w : W) (ρ : Env) : gotD 4 (some ⟨.ok w, [o']⟩) (s0 :: s1 :: s2 :: s3 :: .own o m :: ρ) = some (.ok w, s0 :: s1 :: s2 :: s3 :: .own o' m :: ρ) := rfl
theorem rd_5 (s0 s1 s2 s3 s4 : Slot) (d : D) (ρ : Env) : readV 5 (s0 :: s1 :: s2 :: s3 :: s4 :: .val d :: ρ) = some (.ok d, s0 :: s1 :: s2 :: s3 :: s4 :: .val d :: ρ) := rfl
theorem rl_5 (s0 s1 s2 s3 s4 : Slot) (xs : List D) (ρ : Env) : readV 5 (s0 :: s1 :: s2 :: s3 :: s4 :: .own (.lst xs) false :: ρ) = some (.ok (.lst xs), s0 :: s1 :: s2 :: s3 :: s4 :: .val (.lst xs) :: ρ) := rfl
theorem rc_5 (s0 s1 s2 s3 s4 : Slot) (ks : List Ky) (xs : List D) (ρ : Env) : readV 5 (s0 :: s1 :: s2 :: s3 :: s4 :: .own (.dic ks xs) false :: ρ) = some (.ok (.dic ks xs), s0 :: s1 :: s2 :: s3 :: s4 :: .val (.dic ks xs) :: ρ) := rfl
theorem ri_5 (s0 s1 s2 s3 s4 : Slot) (c : Nat) (fs : List Str) (xs : List D) (ρ : Env) : readV 5 (s0 :: s1 :: s2 :: s3 :: s4 :: .own (.ins c fs xs) false :: ρ) = some (.ok (.ins c fs xs), s0 :: s1 :: s2 :: s3 :: s4 :: .val (.ins c fs xs) :: ρ) := rfl
theorem sv_5 (s0 s1 s2 s3 s4 : Slot) (d : D) (w : W) (ρ : Env) : setV 5 w (s0 :: s1 :: s2 :: s3 :: s4 :: .val d :: ρ) = some (.ok (), s0 :: s1 :: s2 :: s3 :: s4 :: w.slot :: ρ) := rfl
theorem su_5 (s0 s1 s2 s3 s4 : Slot) (w : W) (ρ : Env) : setV 5 w (s0 :: s1 :: s2 :: s3 :: s4 :: .un :: ρ) = some (.ok (), s0 :: s1 :: s2 :: s3 :: s4 :: w.slot :: ρ) := rfl
theorem so_5 (s0 s1 s2 s3 s4 : Slot) (o : Ob) (w : W) (ρ : Env) : setV 5 w (s0 :: s1 :: s2 :: s3 :: s4 :: .own o false :: ρ) = some (.ok (), s0 :: s1 :: s2 :: s3 :: s4 :: w.slot :: ρ) := rfl
theorem cg_5 (s0 s1 s2 s3 s4 : Slot) (f : Ob → Option Ob) (o : Ob) (m : Bool) (ρ : Env) : chg 5 f (s0 :: s1 :: s2 :: s3 :: s4 :: .own o m :: ρ) = match f o with
    | some o' => some (.ok (), s0 :: s1 :: s2 :: s3 :: s4 :: .own o' m :: ρ)
    | none => none := rfl
theorem hd_5 (s0 s1 s2 s3 s4 : Slot) (p : Ob → Bool) (o : Ob) (m : Bool) (ρ : Env) : holds 5 p (s0 :: s1 :: s2 :: s3 :: s4 :: .own o m :: ρ) = if p o then some (.ok (), s0 :: s1 :: s2 :: s3 :: s4 :: .own o m :: ρ) else none := rfl
theorem io_5 (s0 s1 s2 s3 s4 : Slot) (o : Ob) (m : Bool) (ρ : Env) : hasIo 5 (s0 :: s1 :: s2 :: s3 :: s4 :: .own o m :: ρ) = some (.ok (), s0 :: s1 :: s2 :: s3 :: s4 :: .own o m :: ρ) := rfl
theorem cd_5_0 (C : Cfg) (f : Nat) (s0 s1 s2 s3 s4 : Slot) (o : Ob) (m : Bool) (ρ : Env) : callM C f [.io 5] (s0 :: s1 :: s2 :: s3 :: s4 :: .own o m :: ρ) = gotD 5 (C.call f [.o o]) (s0 :: s1 :: s2 :: s3 :: s4 :: .own o m :: ρ) := rfl
theorem cd_5_1 (C : Cfg) (f : Nat) (s0 s1 s2 s3 s4 : Slot) (o : Ob) (m : Bool) (x0 : D) (ρ : Env) : callM C f [.io 5, .v x0] (s0 :: s1 :: s2 :: s3 :: s4 :: .own o m :: ρ) = gotD 5 (C.call f [.o o, .v x0]) (s0 :: s1 :: s2 :: s3 :: s4 :: .own o m :: ρ) := rfl
theorem cd_5_2 (C : Cfg) (f : Nat) (s0 s1 s2 s3 s4 : Slot) (o : Ob) (m : Bool) (x0 x1 : D) (ρ : Env) : callM C f [.io 5, .v x0, .v x1] (s0 :: s1 :: s2 :: s3 :: s4 :: .own o m :: ρ) = gotD 5 (C.call f [.o o, .v x0, .v x1]) (s0 :: s1 :: s2 :: s3 :: s4 :: .own o m :: ρ) := rfl
theorem cd_5_3 (C : Cfg) (f : Nat) (s0 s1 s2 s3 s4 : Slot) (o : Ob) (m : Bool) (x0 x1 x2 : D) (ρ : Env) : callM C f [.io 5, .v x0, .v x1, .v x2] (s0 :: s1 :: s2 :: s3 :: s4 :: .own o m :: ρ) = gotD 5 (C.call f [.o o, .v x0, .v x1, .v x2]) (s0 :: s1 :: s2 :: s3 :: s4 :: .own o m :: ρ) := rfl
theorem gd_5 (s0 s1 s2 s3 s4 : Slot) (o o' : Ob) (m : Bool) (w : W) (ρ : Env) : gotD 5 (some ⟨.ok w, [o']⟩) (s0 :: s1 :: s2 :: s3 :: s4 :: .own o m :: ρ) = some (.ok w, s0 :: s1 :: s2 :: s3 :: s4 :: .own o' m :: ρ) := rfl
theorem rd_6 (s0 s1 s2 s3 s4 s5 : Slot) (d : D) (ρ : Env) : readV 6 (s0 :: s1 :: s2 :: s3 :: s4 :: s5 :: .val d :: ρ) = some (.ok d, s0 :: s1 :: s2 :: s3 :: s4 :: s5 :: .val d :: ρ) := rfl
theorem rl_6 (s0 s1 s2 s3 s4 s5 : Slot) (xs : List D) (ρ : Env) : readV 6 (s0 :: s1 :: s2 :: s3 :: s4 :: s5 :: .own (.lst xs) false :: ρ) = some (.ok (.lst xs), s0 :: s1 :: s2 :: s3 :: s4 :: s5 :: .val (.lst xs) :: ρ) := rfl
theorem rc_6 (s0 s1 s2 s3 s4 s5 : Slot) (ks : List Ky) (xs : List D) (ρ : Env) : readV 6 (s0 :: s1 :: s2 :: s3 :: s4 :: s5 :: .own (.dic ks xs) false :: ρ) = some (.ok (.dic ks xs), s0 :: s1 :: s2 :: s3 :: s4 :: s5 :: .val (.dic ks xs) :: ρ) := rfl
theorem ri_6 (s0 s1 s2 s3 s4 s5 : Slot) (c : Nat) (fs : List Str) (xs : List D) (ρ : Env) : readV 6 (s0 :: s1 :: s2 :: s3 :: s4 :: s5 :: .own (.ins c fs xs) false :: ρ) = some (.ok (.ins c fs xs), s0 :: s1 :: s2 :: s3 :: s4 :: s5 :: .val (.ins c fs xs) :: ρ) := rfl
theorem sv_6 (s0 s1 s2 s3 s4 s5 : Slot) (d : D) (w : W) (ρ : Env) : setV 6 w (s0 :: s1 :: s2 :: s3 :: s4 :: s5 :: .val d :: ρ) = some (.ok (), s0 :: s1 :: s2 :: s3 :: s4 :: s5 :: w.slot :: ρ) := rfl
theorem su_6 (s0 s1 s2 s3 s4 s5 : Slot) (w : W) (ρ : Env) : setV 6 w (s0 :: s1 :: s2 :: s3 :: s4 :: s5 :: .un :: ρ) = some (.ok (), s0 :: s1 :: s2 :: s3 :: s4 :: s5 :: w.slot :: ρ) := rfl
theorem so_6 (s0 s1 s2 s3 s4 s5 : Slot) (o : Ob) (w : W) (ρ : Env) : setV 6 w (s0 :: s1 :: s2 :: s3 :: s4 :: s5 :: .own o false :: ρ) = some (.ok (), s0 :: s1 :: s2 :: s3 :: s4 :: s5 :: w.slot :: ρ) := rfl
theorem cg_6 (s0 s1 s2 s3 s4 s5 : Slot) (f : Ob → Option Ob) (o : Ob) (m : Bool) (ρ : Env) : chg 6 f (s0 :: s1 :: s2 :: s3 :: s4 :: s5 :: .own o m :: ρ) = match f o with
    | some o' => some (.ok (), s0 :: s1 :: s2 :: s3 :: s4 :: s5 :: .own o' m :: ρ)
    | none => none := rfl
theorem hd_6 (s0 s1 s2 s3 s4 s5 : Slot) (p : Ob → Bool) (o : Ob) (m : Bool) (ρ : Env) : holds 6 p (s0 :: s1 :: s2 :: s3 :: s4 :: s5 :: .own o m :: ρ) = if p o then some (.ok (), s0 :: s1 :: s2 :: s3 :: s4 :: s5 :: .own o m :: ρ) else none := rfl
theorem io_6 (s0 s1 s2 s3 s4 s5 : Slot) (o : Ob) (m : Bool) (ρ : Env) : hasIo 6 (s0 :: s1 :: s2 :: s3 :: s4 :: s5 :: .own o m :: ρ) = some (.ok (), s0 :: s1 :: s2 :: s3 :: s4 :: s5 :: .own o m :: ρ) := rfl
theorem cd_6_0 (C : Cfg) (f : Nat) (s0 s1 s2 s3 s4 s5 : Slot) (o : Ob) (m : Bool) (ρ : Env) : callM C f [.io 6] (s0 :: s1 :: s2 :: s3 :: s4 :: s5 :: .own o m :: ρ) = gotD 6 (C.call f [.o o]) (s0 :: s1 :: s2 :: s3 :: s4 :: s5 :: .own o m :: ρ) := rfl
theorem cd_6_1 (C : Cfg) (f : Nat) (s0 s1 s2 s3 s4 s5 : Slot) (o : Ob) (m : Bool) (x0 : D) (ρ : Env) : callM C f [.io 6, .v x0] (s0 :: s1 :: s2 :: s3 :: s4 :: s5 :: .own o m :: ρ) = gotD 6 (C.call f [.o o, .v x0]) (s0 :: s1 :: s2 :: s3 :: s4 :: s5 :: .own o m :: ρ) := rfl
theorem cd_6_2 (C : Cfg) (f : Nat) (s0 s1 s2 s3 s4 s5 : Slot) (o : Ob) (m : Bool) (x0 x1 : D) (ρ : Env) : callM C f [.io 6, .v x0, .v x1] (s0 :: s1 :: s2 :: s3 :: s4 :: s5 :: .own o m :: ρ) = gotD 6 (C.call f [.o o, .v x0, .v x1]) (s0 :: s1 :: s2 :: s3 :: s4 :: s5 :: .own o m :: ρ) := rfl
theorem cd_6_3 (C : Cfg) (f : Nat) (s0 s1 s2 s3 s4 s5 : Slot) (o : Ob) (m : Bool) (x0 x1 x2 : D) (ρ : Env) : callM C f [.io 6, .v x0, .v x1, .v x2] (s0 :: s1 :: s2 :: s3 :: s4 :: s5 :: .own o m :: ρ) = gotD 6 (C.call f [.o o, .v x0, .v x1, .v x2]) (s0 :: s1 :: s2 :: s3 :: s4 :: s5 :: .own o m :: ρ) := rfl
theorem gd_6 (s0 s1 s2 s3 s4 s5 : Slot) (o o' : Ob) (m : Bool) (w : W) (ρ : Env) : gotD 6 (some ⟨.ok w, [o']⟩) (s0 :: s1 :: s2 :: s3 :: s4 :: s5 :: .own o m :: ρ) = some (.ok w, s0 :: s1 :: s2 :: s3 :: s4 :: s5 :: .own o' m :: ρ) := rfl
theorem rd_7 (s0 s1 s2 s3 s4 s5 s6 : Slot) (d : D) (ρ : Env) : readV 7 (s0 :: s1 :: s2 :: s3 :: s4 :: s5 :: s6 :: .val d :: ρ) = some (.ok d, s0 :: s1 :: s2 :: s3 :: s4 :: s5 :: s6 :: .val d :: ρ) := rfl
theorem rl_7 (s0 s1 s2 s3 s4 s5 s6 : Slot) (xs : List D) (ρ : Env) : readV 7 (s0 :: s1 :: s2 :: s3 :: s4 :: s5 :: s6 :: .own (.lst xs) false :: ρ) = some (.ok (.lst xs), s0 :: s1 :: s2 :: s3 :: s4 :: s5 :: s6 :: .val (.lst xs) :: ρ) := rfl
theorem rc_7 (s0 s1 s2 s3 s4 s5 s6 : Slot) (ks : List Ky) (xs : List D) (ρ : Env) : readV 7 (s0 :: s1 :: s2 :: s3 :: s4 :: s5 :: s6 :: .own (.dic ks xs) false :: ρ) = some (.ok (.dic ks xs), s0 :: s1 :: s2 :: s3 :: s4 :: s5 :: s6 :: .val (.dic ks xs) :: ρ) := rfl
theorem ri_7 (s0 s1 s2 s3 s4 s5 s6 : Slot) (c : Nat) (fs : List Str) (xs : List D) (ρ : Env) : readV 7 (s0 :: s1 :: s2 :: s3 :: s4 :: s5 :: s6 :: .own (.ins c fs xs) false :: ρ) = some (.ok (.ins c fs xs), s0 :: s1 :: s2 :: s3 :: s4 :: s5 :: s6 :: .val (.ins c fs xs) :: ρ) := rfl
theorem sv_7 (s0 s1 s2 s3 s4 s5 s6 : Slot) (d : D) (w : W) (ρ : Env) : setV 7 w (s0 :: s1 :: s2 :: s3 :: s4 :: s5 :: s6 :: .val d :: ρ) = some (.ok (), s0 :: s1 :: s2 :: s3 :: s4 :: s5 :: s6 :: w.slot :: ρ) := rfl
theorem su_7 (s0 s1 s2 s3 s4 s5 s6 : Slot) (w : W) (ρ : Env) : setV 7 w (s0 :: s1 :: s2 :: s3 :: s4 :: s5 :: s6 :: .un :: ρ) = some (.ok (), s0 :: s1 :: s2 :: s3 :: s4 :: s5 :: s6 :: w.slot :: ρ) := rfl
theorem so_7 (s0 s1 s2 s3 s4 s5 s6 : Slot) (o : Ob) (w : W) (ρ : Env) : setV 7 w (s0 :: s1 :: s2 :: s3 :: s4 :: s5 :: s6 :: .own o false :: ρ) = some (.ok (), s0 :: s1 :: s2 :: s3 :: s4 :: s5 :: s6 :: w.slot :: ρ) := rfl
theorem cg_7 (s0 s1 s2 s3 s4 s5 s6 : Slot) (f : Ob → Option Ob) (o : Ob) (m : Bool) (ρ : Env) : chg 7 f (s0 :: s1 :: s2 :: s3 :: s4 :: s5 :: s6 :: .own o m :: ρ) = match f o with
    | some o' => some (.ok (), s0 :: s1 :: s2 :: s3 :: s4 :: s5 :: s6 :: .own o' m :: ρ)
    | none => none := rfl
theorem hd_7 (s0 s1 s2 s3 s4 s5 s6 : Slot) (p : Ob → Bool) (o : Ob) (m : Bool) (ρ : Env) : holds 7 p (s0 :: s1 :: s2 :: s3 :: s4 :: s5 :: s6 :: .own o m :: ρ) = if p o then some (.ok (), s0 :: s1 :: s2 :: s3 :: s4 :: s5 :: s6 :: .own o m :: ρ) else none := rfl
theorem io_7 (s0 s1 s2 s3 s4 s5 s6 : Slot) (o : Ob) (m : Bool) (ρ : Env) : hasIo 7 (s0 :: s1 :: s2 :: s3 :: s4 :: s5 :: s6 :: .own o m :: ρ) = some (.ok (), s0 :: s1 :: s2 :: s3 :: s4 :: s5 :: s6 :: .own o m :: ρ) := rfl
theorem cd_7_0 (C : Cfg) (f : Nat) (s0 s1 s2 s3 s4 s5 s6 : Slot) (o : Ob) (m : Bool) (ρ : Env) : callM C f [.io 7] (s0 :: s1 :: s2 :: s3 :: s4 :: s5 :: s6 :: .own o m :: ρ) = gotD 7 (C.call f [.o o]) (s0 :: s1 :: s2 :: s3 :: s4 :: s5 :: s6 :: .own o m :: ρ) := rfl
theorem cd_7_1 (C : Cfg) (f : Nat) (s0 s1 s2 s3 s4 s5 s6 : Slot) (o : Ob) (m : Bool) (x0 : D) (ρ : Env) : callM C f [.io 7, .v x0] (s0 :: s1 :: s2 :: s3 :: s4 :: s5 :: s6 :: .own o m :: ρ) = gotD 7 (C.call f [.o o, .v x0]) (s0 :: s1 :: s2 :: s3 :: s4 :: s5 :: s6 :: .own o m :: ρ) := rfl
theorem cd_7_2 (C : Cfg) (f : Nat) (s0 s1 s2 s3 s4 s5 s6 : Slot) (o : Ob) (m : Bool) (x0 x1 : D) (ρ : Env) : callM C f [.io 7, .v x0, .v x1] (s0 :: s1 :: s2 :: s3 :: s4 :: s5 :: s6 :: .own o m :: ρ) = gotD 7 (C.call f [.o o, .v x0, .v x1]) (s0 :: s1 :: s2 :: s3 :: s4 :: s5 :: s6 :: .own o m :: ρ) := rfl
theorem cd_7_3 (C : Cfg) (f : Nat) (s0 s1 s2 s3 s4 s5 s6 : Slot) (o : Ob) (m : Bool) (x0 x1 x2 : D) (ρ : Env) : callM C f [.io 7, .v x0, .v x1, .v x2] (s0 :: s1 :: s2 :: s3 :: s4 :: s5 :: s6 :: .own o m :: ρ) = gotD 7 (C.call f [.o o, .v x0, .v x1, .v x2]) (s0 :: s1 :: s2 :: s3 :: s4 :: s5 :: s6 :: .own o m :: ρ) := rfl
theorem gd_7 (s0 s1 s2 s3 s4 s5 s6 : Slot) (o o' : Ob) (m : Bool) (w : W) (ρ : Env) : gotD 7 (some ⟨.ok w, [o']⟩) (s0 :: s1 :: s2 :: s3 :: s4 :: s5 :: s6 :: .own o m :: ρ) = some (.ok w, s0 :: s1 :: s2 :: s3 :: s4 :: s5 :: s6 :: .own o' m :: ρ) := rfl
theorem rd_8 (s0 s1 s2 s3 s4 s5 s6 s7 : Slot) (d : D) (ρ : Env) : readV 8 (s0 :: s1 :: s2 :: s3 :: s4 :: s5 :: s6 :: s7 :: .val d :: ρ) = some (.ok d, s0 :: s1 :: s2 :: s3 :: s4 :: s5 :: s6 :: s7 :: .val d :: ρ) := rfl
theorem rl_8 (s0 s1 s2 s3 s4 s5 s6 s7 : Slot) (xs : List D) (ρ : Env) : readV 8 (s0 :: s1 :: s2 :: s3 :: s4 :: s5 :: s6 :: s7 :: .own (.lst xs) false :: ρ) = some (.ok (.lst xs), s0 :: s1 :: s2 :: s3 :: s4 :: s5 :: s6 :: s7 :: .val (.lst xs) :: ρ) := rfl
theorem rc_8 (s0 s1 s2 s3 s4 s5 s6 s7 : Slot) (ks : List Ky) (xs : List D) (ρ : Env) : readV 8 (s0 :: s1 :: s2 :: s3 :: s4 :: s5 :: s6 :: s7 :: .own (.dic ks xs) false :: ρ) = some (.ok (.dic ks xs), s0 :: s1 :: s2 :: s3 :: s4 :: s5 :: s6 :: s7 :: .val (.dic ks xs) :: ρ) := rfl
theorem ri_8 (s0 s1 s2 s3 s4 s5 s6 s7 : Slot) (c : Nat) (fs : List Str) (xs : List D) (ρ : Env) : readV 8 (s0 :: s1 :: s2 :: s3 :: s4 :: s5 :: s6 :: s7 :: .own (.ins c fs xs) false :: ρ) = some (.ok (.ins c fs xs), s0 :: s1 :: s2 :: s3 :: s4 :: s5 :: s6 :: s7 :: .val (.ins c fs xs) :: ρ) := rfl
theorem sv_8 (s0 s1 s2 s3 s4 s5 s6 s7 : Slot) (d : D) (w : W) (ρ : Env) : setV 8 w (s0 :: s1 :: s2 :: s3 :: s4 :: s5 :: s6 :: s7 :: .val d :: ρ) = some (.ok (), s0 :: s1 :: s2 :: s3 :: s4 :: s5 :: s6 :: s7 :: w.slot :: ρ) := rfl
theorem su_8 (s0 s1 s2 s3 s4 s5 s6 s7 : Slot) (w : W) (ρ : Env) : setV 8 w (s0 :: s1 :: s2 :: s3 :: s4 :: s5 :: s6 :: s7 :: .un :: ρ) = some (.ok (), s0 :: s1 :: s2 :: s3 :: s4 :: s5 :: s6 :: s7 :: w.slot :: ρ) := rfl
theorem so_8 (s0 s1 s2 s3 s4 s5 s6 s7 : Slot) (o : Ob) (w : W) (ρ : Env) : setV 8 w (s0 :: s1 :: s2 :: s3 :: s4 :: s5 :: s6 :: s7 :: .own o false :: ρ) = some (.ok (), s0 :: s1 :: s2 :: s3 :: s4 :: s5 :: s6 :: s7 :: w.slot :: ρ) := rfl
theorem cg_8 (s0 s1 s2 s3 s4 s5 s6 s7 : Slot) (f : Ob → Option Ob) (o : Ob) (m : Bool) (ρ : Env) : chg 8 f (s0 :: s1 :: s2 :: s3 :: s4 :: s5 :: s6 :: s7 :: .own o m :: ρ) = match f o with
    | some o' => some (.ok (), s0 :: s1 :: s2 :: s3 :: s4 :: s5 :: s6 :: s7 :: .own o' m :: ρ)
    | none => none := rfl
theorem hd_8 (s0 s1 s2 s3 s4 s5 s6 s7 : Slot) (p : Ob → Bool) (o : Ob) (m : Bool) (ρ : Env) : holds 8 p (s0 :: s1 :: s2 :: s3 :: s4 :: s5 :: s6 :: s7 :: .own o m :: ρ) = if p o then some (.ok (), s0 :: s1 :: s2 :: s3 :: s4 :: s5 :: s6 :: s7 :: .own o m :: ρ) else none := rfl
theorem io_8 (s0 s1 s2 s3 s4 s5 s6 s7 : Slot) (o : Ob) (m : Bool) (ρ : Env) : hasIo 8 (s0 :: s1 :: s2 :: s3 :: s4 :: s5 :: s6 :: s7 :: .own o m :: ρ) = some (.ok (), s0 :: s1 :: s2 :: s3 :: s4 :: s5 :: s6 :: s7 :: .own o m :: ρ) := rfl
theorem cd_8_0 (C : Cfg) (f : Nat) (s0 s1 s2 s3 s4 s5 s6 s7 : Slot) (o : Ob) (m : Bool) (ρ : Env) : callM C f [.io 8] (s0 :: s1 :: s2 :: s3 :: s4 :: s5 :: s6 :: s7 :: .own o m :: ρ) = gotD 8 (C.call f [.o o]) (s0 :: s1 :: s2 :: s3 :: s4 :: s5 :: s6 :: s7 :: .own o m :: ρ) := rfl
theorem cd_8_1 (C : Cfg) (f : Nat) (s0 s1 s2 s3 s4 s5 s6 s7 : Slot) (o : Ob) (m : Bool) (x0 : D) (ρ : Env) : callM C f [.io 8, .v x0] (s0 :: s1 :: s2 :: s3 :: s4 :: s5 :: s6 :: s7 :: .own o m :: ρ) = gotD 8 (C.call f [.o o, .v x0]) (s0 :: s1 :: s2 :: s3 :: s4 :: s5 :: s6 :: s7 :: .own o m :: ρ) := rfl
theorem cd_8_2 (C : Cfg) (f : Nat) (s0 s1 s2 s3 s4 s5 s6 s7 : Slot) (o : Ob) (m : Bool) (x0 x1 : D) (ρ : Env) : callM C f [.io 8, .v x0, .v x1] (s0 :: s1 :: s2 :: s3 :: s4 :: s5 :: s6 :: s7 :: .own o m :: ρ) = gotD 8 (C.call f [.o o, .v x0, .v x1]) (s0 :: s1 :: s2 :: s3 :: s4 :: s5 :: s6 :: s7 :: .own o m :: ρ) := rfl
theorem cd_8_3 (C : Cfg) (f : Nat) (s0 s1 s2 s3 s4 s5 s6 s7 : Slot) (o : Ob) (m : Bool) (x0 x1 x2 : D) (ρ : Env) : callM C f [.io 8, .v x0, .v x1, .v x2] (s0 :: s1 :: s2 :: s3 :: s4 :: s5 :: s6 :: s7 :: .own o m :: ρ) = gotD 8 (C.call f [.o o, .v x0, .v x1, .v x2]) (s0 :: s1 :: s2 :: s3 :: s4 :: s5 :: s6 :: s7 :: .own o m :: ρ) := rfl
theorem gd_8 (s0 s1 s2 s3 s4 s5 s6 s7 : Slot) (o o' : Ob) (m : Bool) (w : W) (ρ : Env) : gotD 8 (some ⟨.ok w, [o']⟩) (s0 :: s1 :: s2 :: s3 :: s4 :: s5 :: s6 :: s7 :: .own o m :: ρ) = some (.ok w, s0 :: s1 :: s2 :: s3 :: s4 :: s5 :: s6 :: s7 :: .own o' m :: ρ) := rfl
theorem rd_9 (s0 s1 s2 s3 s4 s5 s6 s7 s8 : Slot) (d : D) (ρ : Env) : readV 9 (s0 :: s1 :: s2 :: s3 :: s4 :: s5 :: s6 :: s7 :: s8 :: .val d :: ρ) = some (.ok d, s0 :: s1 :: s2 :: s3 :: s4 :: s5 :: s6 :: s7 :: s8 :: .val d :: ρ) := rfl
theorem rl_9 (s0 s1 s2 s3 s4 s5 s6 s7 s8 : Slot) (xs : List D) (ρ : Env) : readV 9 (s0 :: s1 :: s2 :: s3 :: s4 :: s5 :: s6 :: s7 :: s8 :: .own (.lst xs) false :: ρ) = some (.ok (.lst xs), s0 :: s1 :: s2 :: s3 :: s4 :: s5 :: s6 :: s7 :: s8 :: .val (.lst xs) :: ρ) := rfl
theorem rc_9 (s0 s1 s2 s3 s4 s5 s6 s7 s8 : Slot) (ks : List Ky) (xs : List D) (ρ : Env) : readV 9 (s0 :: s1 :: s2 :: s3 :: s4 :: s5 :: s6 :: s7 :: s8 :: .own (.dic ks xs) false :: ρ) = some (.ok (.dic ks xs), s0 :: s1 :: s2 :: s3 :: s4 :: s5 :: s6 :: s7 :: s8 :: .val (.dic ks xs) :: ρ) := rfl
theorem ri_9 (s0 s1 s2 s3 s4 s5 s6 s7 s8 : Slot) (c : Nat) (fs : List Str) (xs : List D) (ρ : Env) : readV 9 (s0 :: s1 :: s2 :: s3 :: s4 :: s5 :: s6 :: s7 :: s8 :: .own (.ins c fs xs) false :: ρ) = some (.ok (.ins c fs xs), s0 :: s1 :: s2 :: s3 :: s4 :: s5 :: s6 :: s7 :: s8 :: .val (.ins c fs xs) :: ρ) := rfl
theorem sv_9 (s0 s1 s2 s3 s4 s5 s6 s7 s8 : Slot) (d : D) (w : W) (ρ : Env) : setV 9 w (s0 :: s1 :: s2 :: s3 :: s4 :: s5 :: s6 :: s7 :: s8 :: .val d :: ρ) = some (.ok (), s0 :: s1 :: s2 :: s3 :: s4 :: s5 :: s6 :: s7 :: s8 :: w.slot :: ρ) := rfl
theorem su_9 (s0 s1 s2 s3 s4 s5 s6 s7 s8 : Slot) (w : W) (ρ : Env) : setV 9 w (s0 :: s1 :: s2 :: s3 :: s4 :: s5 :: s6 :: s7 :: s8 :: .un :: ρ) = some (.ok (), s0 :: s1 :: s2 :: s3 :: s4 :: s5 :: s6 :: s7 :: s8 :: w.slot :: ρ) := rfl
theorem so_9 (s0 s1 s2 s3 s4 s5 s6 s7 s8 : Slot) (o : Ob) (w : W) (ρ : Env) : setV 9 w (s0 :: s1 :: s2 :: s3 :: s4 :: s5 :: s6 :: s7 :: s8 :: .own o false :: ρ) = some (.ok (), s0 :: s1 :: s2 :: s3 :: s4 :: s5 :: s6 :: s7 :: s8 :: w.slot :: ρ) := rfl
theorem cg_9 (s0 s1 s2 s3 s4 s5 s6 s7 s8 : Slot) (f : Ob → Option Ob) (o : Ob) (m : Bool) (ρ : Env) : chg 9 f (s0 :: s1 :: s2 :: s3 :: s4 :: s5 :: s6 :: s7 :: s8 :: .own o m :: ρ) = match f o with
    | some o' => some (.ok (), s0 :: s1 :: s2 :: s3 :: s4 :: s5 :: s6 :: s7 :: s8 :: .own o' m :: ρ)
    | none => none := rfl
theorem hd_9 (s0 s1 s2 s3 s4 s5 s6 s7 s8 : Slot) (p : Ob → Bool) (o : Ob) (m : Bool) (ρ : Env) : holds 9 p (s0 :: s1 :: s2 :: s3 :: s4 :: s5 :: s6 :: s7 :: s8 :: .own o m :: ρ) = if p o then some (.ok (), s0 :: s1 :: s2 :: s3 :: s4 :: s5 :: s6 :: s7 :: s8 :: .own o m :: ρ) else none := rfl
theorem io_9 (s0 s1 s2 s3 s4 s5 s6 s7 s8 : Slot) (o : Ob) (m : Bool) (ρ : Env) : hasIo 9 (s0 :: s1 :: s2 :: s3 :: s4 :: s5 :: s6 :: s7 :: s8 :: .own o m :: ρ) = some (.ok (), s0 :: s1 :: s2 :: s3 :: s4 :: s5 :: s6 :: s7 :: s8 :: .own o m :: ρ) := rfl
theorem cd_9_0 (C : Cfg) (f : Nat) (s0 s1 s2 s3 s4 s5 s6 s7 s8 : Slot) (o : Ob) (m : Bool) (ρ : Env) : callM C f [.io 9] (s0 :: s1 :: s2 :: s3 :: s4 :: s5 :: s6 :: s7 :: s8 :: .own o m :: ρ) = gotD 9 (C.call f [.o o]) (s0 :: s1 :: s2 :: s3 :: s4 :: s5 :: s6 :: s7 :: s8 :: .own o m :: ρ) := rfl
theorem cd_9_1 (C : Cfg) (f : Nat) (s0 s1 s2 s3 s4 s5 s6 s7 s8 : Slot) (o : Ob) (m : Bool) (x0 : D) (ρ : Env) : callM C f [.io 9, .v x0] (s0 :: s1 :: s2 :: s3 :: s4 :: s5 :: s6 :: s7 :: s8 :: .own o m :: ρ) = gotD 9 (C.call f [.o o, .v x0]) (s0 :: s1 :: s2 :: s3 :: s4 :: s5 :: s6 :: s7 :: s8 :: .own o m :: ρ) := rfl
theorem cd_9_2 (C : Cfg) (f : Nat) (s0 s1 s2 s3 s4 s5 s6 s7 s8 : Slot) (o : Ob) (m : Bool) (x0 x1 : D) (ρ : Env) : callM C f [.io 9, .v x0, .v x1] (s0 :: s1 :: s2 :: s3 :: s4 :: s5 :: s6 :: s7 :: s8 :: .own o m :: ρ) = gotD 9 (C.call f [.o o, .v x0, .v x1]) (s0 :: s1 :: s2 :: s3 :: s4 :: s5 :: s6 :: s7 :: s8 :: .own o m :: ρ) := rfl
theorem cd_9_3 (C : Cfg) (f : Nat) (s0 s1 s2 s3 s4 s5 s6 s7 s8 : Slot) (o : Ob) (m : Bool) (x0 x1 x2 : D) (ρ : Env) : callM C f [.io 9, .v x0, .v x1, .v x2] (s0 :: s1 :: s2 :: s3 :: s4 :: s5 :: s6 :: s7 :: s8 :: .own o m :: ρ) = gotD 9 (C.call f [.o o, .v x0, .v x1, .v x2]) (s0 :: s1 :: s2 :: s3 :: s4 :: s5 :: s6 :: s7 :: s8 :: .own o m :: ρ) := rfl
theorem gd_9 (s0 s1 s2 s3 s4 s5 s6 s7 s8 : Slot) (o o' : Ob) (m : Bool) (w : W) (ρ : Env) : gotD 9 (some ⟨.ok w, [o']⟩) (s0 :: s1 :: s2 :: s3 :: s4 :: s5 :: s6 :: s7 :: s8 :: .own o m :: ρ) = some (.ok w, s0 :: s1 :: s2 :: s3 :: s4 :: s5 :: s6 :: s7 :: s8 :: .own o' m :: ρ) := rfl
theorem rd_10 (s0 s1 s2 s3 s4 s5 s6 s7 s8 s9 : Slot) (d : D) (ρ : Env) : readV 10 (s0 :: s1 :: s2 :: s3 :: s4 :: s5 :: s6 :: s7 :: s8 :: s9 :: .val d :: ρ) = some (.ok d, s0 :: s1 :: s2 :: s3 :: s4 :: s5 :: s6 :: s7 :: s8 :: s9 :: .val d :: ρ) := rfl
theorem rl_10 (s0 s1 s2 s3 s4 s5 s6 s7 s8 s9 : Slot) (xs : List D) (ρ : Env) : readV 10 (s0 :: s1 :: s2 :: s3 :: s4 :: s5 :: s6 :: s7 :: s8 :: s9 :: .own (.lst xs) false :: ρ) = some (.ok (.lst xs), s0 :: s1 :: s2 :: s3 :: s4 :: s5 :: s6 :: s7 :: s8 :: s9 :: .val (.lst xs) :: ρ) := rfl
theorem rc_10 (s0 s1 s2 s3 s4 s5 s6 s7 s8 s9 : Slot) (ks : List Ky) (xs : List D) (ρ : Env) : readV 10 (s0 :: s1 :: s2 :: s3 :: s4 :: s5 :: s6 :: s7 :: s8 :: s9 :: .own (.dic ks xs) false :: ρ) = some (.ok (.dic ks xs), s0 :: s1 :: s2 :: s3 :: s4 :: s5 :: s6 :: s7 :: s8 :: s9 :: .val (.dic ks xs) :: ρ) := rfl
theorem ri_10 (s0 s1 s2 s3 s4 s5 s6 s7 s8 s9 : Slot) (c : Nat) (fs : List Str) (xs : List D) (ρ : Env) : readV 10 (s0 :: s1 :: s2 :: s3 :: s4 :: s5 :: s6 :: s7 :: s8 :: s9 :: .own (.ins c fs xs) false :: ρ) = some (.ok (.ins c fs xs), s0 :: s1 :: s2 :: s3 :: s4 :: s5 :: s6 :: s7 :: s8 :: s9 :: .val (.ins c fs xs) :: ρ) := rfl
theorem sv_10 (s0 s1 s2 s3 s4 s5 s6 s7 s8 s9 : Slot) (d : D) (w : W) (ρ : Env) : setV 10 w (s0 :: s1 :: s2 :: s3 :: s4 :: s5 :: s6 :: s7 :: s8 :: s9 :: .val d :: ρ) = some (.ok (), s0 :: s1 :: s2 :: s3 :: s4 :: s5 :: s6 :: s7 :: s8 :: s9 :: w.slot :: ρ) := rfl
theorem su_10 (s0 s1 s2 s3 s4 s5 s6 s7 s8 s9 : Slot) (w : W) (ρ : Env) : setV 10 w (s0 :: s1 :: s2 :: s3 :: s4 :: s5 :: s6 :: s7 :: s8 :: s9 :: .un :: ρ) = some (.ok (), s0 :: s1 :: s2 :: s3 :: s4 :: s5 :: s6 :: s7 :: s8 :: s9 :: w.slot :: ρ) := rfl
theorem so_10 (s0 s1 s2 s3 s4 s5 s6 s7 s8 s9 : Slot) (o : Ob) (w : W) (ρ : Env) : setV 10 w (s0 :: s1 :: s2 :: s3 :: s4 :: s5 :: s6 :: s7 :: s8 :: s9 :: .own o false :: ρ) = some (.ok (), s0 :: s1 :: s2 :: s3 :: s4 :: s5 :: s6 :: s7 :: s8 :: s9 :: w.slot :: ρ) := rfl
theorem cg_10 (s0 s1 s2 s3 s4 s5 s6 s7 s8 s9 : Slot) (f : Ob → Option Ob) (o : Ob) (m : Bool) (ρ : Env) : chg 10 f (s0 :: s1 :: s2 :: s3 :: s4 :: s5 :: s6 :: s7 :: s8 :: s9 :: .own o m :: ρ) = match f o with
    | some o' => some (.ok (), s0 :: s1 :: s2 :: s3 :: s4 :: s5 :: s6 :: s7 :: s8 :: s9 :: .own o' m :: ρ)
    | none => none := rfl
theorem hd_10 (s0 s1 s2 s3 s4 s5 s6 s7 s8 s9 : Slot) (p : Ob → Bool) (o : Ob) (m : Bool) (ρ : Env) : holds 10 p (s0 :: s1 :: s2 :: s3 :: s4 :: s5 :: s6 :: s7 :: s8 :: s9 :: .own o m :: ρ) = if p o then some (.ok (), s0 :: s1 :: s2 :: s3 :: s4 :: s5 :: s6 :: s7 :: s8 :: s9 :: .own o m :: ρ) else none := rfl
theorem io_10 (s0 s1 s2 s3 s4 s5 s6 s7 s8 s9 : Slot) (o : Ob) (m : Bool) (ρ : Env) : hasIo 10 (s0 :: s1 :: s2 :: s3 :: s4 :: s5 :: s6 :: s7 :: s8 :: s9 :: .own o m :: ρ) = some (.ok (), s0 :: s1 :: s2 :: s3 :: s4 :: s5 :: s6 :: s7 :: s8 :: s9 :: .own o m :: ρ) := rfl
theorem cd_10_0 (C : Cfg) (f : Nat) (s0 s1 s2 s3 s4 s5 s6 s7 s8 s9 : Slot) (o : Ob) (m : Bool) (ρ : Env) : callM C f [.io 10] (s0 :: s1 :: s2 :: s3 :: s4 :: s5 :: s6 :: s7 :: s8 :: s9 :: .own o m :: ρ) = gotD 10 (C.call f [.o o]) (s0 :: s1 :: s2 :: s3 :: s4 :: s5 :: s6 :: s7 :: s8 :: s9 :: .own o m :: ρ) := rfl
theorem cd_10_1 (C : Cfg) (f : Nat) (s0 s1 s2 s3 s4 s5 s6 s7 s8 s9 : Slot) (o : Ob) (m : Bool) (x0 : D) (ρ : Env) : callM C f [.io 10, .v x0] (s0 :: s1 :: s2 :: s3 :: s4 :: s5 :: s6 :: s7 :: s8 :: s9 :: .own o m :: ρ) = gotD 10 (C.call f [.o o, .v x0]) (s0 :: s1 :: s2 :: s3 :: s4 :: s5 :: s6 :: s7 :: s8 :: s9 :: .own o m :: ρ) := rfl
theorem cd_10_2 (C : Cfg) (f : Nat) (s0 s1 s2 s3 s4 s5 s6 s7 s8 s9 : Slot) (o : Ob) (m : Bool) (x0 x1 : D) (ρ : Env) : callM C f [.io 10, .v x0, .v x1] (s0 :: s1 :: s2 :: s3 :: s4 :: s5 :: s6 :: s7 :: s8 :: s9 :: .own o m :: ρ) = gotD 10 (C.call f [.o o, .v x0, .v x1]) (s0 :: s1 :: s2 :: s3 :: s4 :: s5 :: s6 :: s7 :: s8 :: s9 :: .own o m :: ρ) := rfl
theorem cd_10_3 (C : Cfg) (f : Nat) (s0 s1 s2 s3 s4 s5 s6 s7 s8 s9 : Slot) (o : Ob) (m : Bool) (x0 x1 x2 : D) (ρ : Env) : callM C f [.io 10, .v x0, .v x1, .v x2] (s0 :: s1 :: s2 :: s3 :: s4 :: s5 :: s6 :: s7 :: s8 :: s9 :: .own o m :: ρ) = gotD 10 (C.call f [.o o, .v x0, .v x1, .v x2]) (s0 :: s1 :: s2 :: s3 :: s4 :: s5 :: s6 :: s7 :: s8 :: s9 :: .own o m :: ρ) := rfl
theorem gd_10 (s0 s1 s2 s3 s4 s5 s6 s7 s8 s9 : Slot) (o o' : Ob) (m : Bool) (w : W) (ρ : Env) : gotD 10 (some ⟨.ok w, [o']⟩) (s0 :: s1 :: s2 :: s3 :: s4 :: s5 :: s6 :: s7 :: s8 :: s9 :: .own o m :: ρ) = some (.ok w, s0 :: s1 :: s2 :: s3 :: s4 :: s5 :: s6 :: s7 :: s8 :: s9 :: .own o' m :: ρ) := rfl
theorem rd_11 (s0 s1 s2 s3 s4 s5 s6 s7 s8 s9 s10 : Slot) (d : D) (ρ : Env) : readV 11 (s0 :: s1 :: s2 :: s3 :: s4 :: s5 :: s6 :: s7 :: s8 :: s9 :: s10 :: .val d :: ρ) = some (.ok d, s0 :: s1 :: s2 :: s3 :: s4 :: s5 :: s6 :: s7 :: s8 :: s9 :: s10 :: .val d :: ρ) := rfl
theorem rl_11 (s0 s1 s2 s3 s4 s5 s6 s7 s8 s9 s10 : Slot) (xs : List D) (ρ : Env) : readV 11 (s0 :: s1 :: s2 :: s3 :: s4 :: s5 :: s6 :: s7 :: s8 :: s9 :: s10 :: .own (.lst xs) false :: ρ) = some (.ok (.lst xs), s0 :: s1 :: s2 :: s3 :: s4 :: s5 :: s6 :: s7 :: s8 :: s9 :: s10 :: .val (.lst xs) :: ρ) := rfl
theorem rc_11 (s0 s1 s2 s3 s4 s5 s6 s7 s8 s9 s10 : Slot) (ks : List Ky) (xs : List D) (ρ : Env) : readV 11 (s0 :: s1 :: s2 :: s3 :: s4 :: s5 :: s6 :: s7 :: s8 :: s9 :: s10 :: .own (.dic ks xs) false :: ρ) = some (.ok (.dic ks xs), s0 :: s1 :: s2 :: s3 :: s4 :: s5 :: s6 :: s7 :: s8 :: s9 :: s10 :: .val (.dic ks xs) :: ρ) := rfl
theorem ri_11 (s0 s1 s2 s3 s4 s5 s6 s7 s8 s9 s10 : Slot) (c : Nat) (fs : List Str) (xs : List D) (ρ : Env) : readV 11 (s0 :: s1 :: s2 :: s3 :: s4 :: s5 :: s6 :: s7 :: s8 :: s9 :: s10 :: .own (.ins c fs xs) false :: ρ) = some (.ok (.ins c fs xs), s0 :: s1 :: s2 :: s3 :: s4 :: s5 :: s6 :: s7 :: s8 :: s9 :: s10 :: .val (.ins c fs xs) :: ρ) := rfl
theorem sv_11 (s0 s1 s2 s3 s4 s5 s6 s7 s8 s9 s10 : Slot) (d : D) (w : W) (ρ : Env) : setV 11 w (s0 :: s1 :: s2 :: s3 :: s4 :: s5 :: s6 :: s7 :: s8 :: s9 :: s10 :: .val d :: ρ) = some (.ok (), s0 :: s1 :: s2 :: s3 :: s4 :: s5 :: s6 :: s7 :: s8 :: s9 :: s10 :: w.slot :: ρ) := rfl
theorem su_11 (s0 s1 s2 s3 s4 s5 s6 s7 s8 s9 s10 : Slot) (w : W) (ρ : Env) : setV 11 w (s0 :: s1 :: s2 :: s3 :: s4 :: s5 :: s6 :: s7 :: s8 :: s9 :: s10 :: .un :: ρ) = some (.ok (), s0 :: s1 :: s2 :: s3 :: s4 :: s5 :: s6 :: s7 :: s8 :: s9 :: s10 :: w.slot :: ρ) := rfl
theorem so_11 (s0 s1 s2 s3 s4 s5 s6 s7 s8 s9 s10 : Slot) (o : Ob) (w : W) (ρ : Env) : setV 11 w (s0 :: s1 :: s2 :: s3 :: s4 :: s5 :: s6 :: s7 :: s8 :: s9 :: s10 :: .own o false :: ρ) = some (.ok (), s0 :: s1 :: s2 :: s3 :: s4 :: s5 :: s6 :: s7 :: s8 :: s9 :: s10 :: w.slot :: ρ) := rfl
theorem cg_11 (s0 s1 s2 s3 s4 s5 s6 s7 s8 s9 s10 : Slot) (f : Ob → Option Ob) (o : Ob) (m : Bool) (ρ : Env) : chg 11 f (s0 :: s1 :: s2 :: s3 :: s4 :: s5 :: s6 :: s7 :: s8 :: s9 :: s10 :: .own o m :: ρ) = match f o with
    | some o' => some (.ok (), s0 :: s1 :: s2 :: s3 :: s4 :: s5 :: s6 :: s7 :: s8 :: s9 :: s10 :: .own o' m :: ρ)
    | none => none := rfl
theorem hd_11 (s0 s1 s2 s3 s4 s5 s6 s7 s8 s9 s10 : Slot) (p : Ob → Bool) (o : Ob) (m : Bool) (ρ : Env) : holds 11 p (s0 :: s1 :: s2 :: s3 :: s4 :: s5 :: s6 :: s7 :: s8 :: s9 :: s10 :: .own o m :: ρ) = if p o then some (.ok (), s0 :: s1 :: s2 :: s3 :: s4 :: s5 :: s6 :: s7 :: s8 :: s9 :: s10 :: .own o m :: ρ) else none := rfl
theorem io_11 (s0 s1 s2 s3 s4 s5 s6 s7 s8 s9 s10 : Slot) (o : Ob) (m : Bool) (ρ : Env) : hasIo 11 (s0 :: s1 :: s2 :: s3 :: s4 :: s5 :: s6 :: s7 :: s8 :: s9 :: s10 :: .own o m :: ρ) = some (.ok (), s0 :: s1 :: s2 :: s3 :: s4 :: s5 :: s6 :: s7 :: s8 :: s9 :: s10 :: .own o m :: ρ) := rfl
theorem cd_11_0 (C : Cfg) (f : Nat) (s0 s1 s2 s3 s4 s5 s6 s7 s8 s9 s10 : Slot) (o : Ob) (m : Bool) (ρ : Env) : callM C f [.io 11] (s0 :: s1 :: s2 :: s3 :: s4 :: s5 :: s6 :: s7 :: s8 :: s9 :: s10 :: .own o m :: ρ) = gotD 11 (C.call f [.o o]) (s0 :: s1 :: s2 :: s3 :: s4 :: s5 :: s6 :: s7 :: s8 :: s9 :: s10 :: .own o m :: ρ) := rfl
theorem cd_11_1 (C : Cfg) (f : Nat) (s0 s1 s2 s3 s4 s5 s6 s7 s8 s9 s10 : Slot) (o : Ob) (m : Bool) (x0 : D) (ρ : Env) : callM C f [.io 11, .v x0] (s0 :: s1 :: s2 :: s3 :: s4 :: s5 :: s6 :: s7 :: s8 :: s9 :: s10 :: .own o m :: ρ) = gotD 11 (C.call f [.o o, .v x0]) (s0 :: s1 :: s2 :: s3 :: s4 :: s5 :: s6 :: s7 :: s8 :: s9 :: s10 :: .own o m :: ρ) := rfl
theorem cd_11_2 (C : Cfg) (f : Nat) (s0 s1 s2 s3 s4 s5 s6 s7 s8 s9 s10 : Slot) (o : Ob) (m : Bool) (x0 x1 : D) (ρ : Env) : callM C f [.io 11, .v x0, .v x1] (s0 :: s1 :: s2 :: s3 :: s4 :: s5 :: s6 :: s7 :: s8 :: s9 :: s10 :: .own o m :: ρ) = gotD 11 (C.call f [.o o, .v x0, .v x1]) (s0 :: s1 :: s2 :: s3 :: s4 :: s5 :: s6 :: s7 :: s8 :: s9 :: s10 :: .own o m :: ρ) := rfl
theorem cd_11_3 (C : Cfg) (f : Nat) (s0 s1 s2 s3 s4 s5 s6 s7 s8 s9 s10 : Slot) (o : Ob) (m : Bool) (x0 x1 x2 : D) (ρ : Env) : callM C f [.io 11, .v x0, .v x1, .v x2] (s0 :: s1 :: s2 :: s3 :: s4 :: s5 :: s6 :: s7 :: s8 :: s9 :: s10 :: .own o m :: ρ) = gotD 11 (C.call f [.o o, .v x0, .v x1, .v x2]) (s0 :: s1 :: s2 :: s3 :: s4 :: s5 :: s6 :: s7 :: s8 :: s9 :: s10 :: .own o m :: ρ) := rfl
theorem gd_11 (s0 s1 s2 s3 s4 s5 s6 s7 s8 s9 s10 : Slot) (o o' : Ob) (m : Bool) (w : W) (ρ : Env) : gotD 11 (some ⟨.ok w, [o']⟩) (s0 :: s1 :: s2 :: s3 :: s4 :: s5 :: s6 :: s7 :: s8 :: s9 :: s10 :: .own o m :: ρ) = some (.ok w, s0 :: s1 :: s2 :: s3 :: s4 :: s5 :: s6 :: s7 :: s8 :: s9 :: s10 :: .own o' m :: ρ) := rfl
theorem rd_12 (s0 s1 s2 s3 s4 s5 s6 s7 s8 s9 s10 s11 : Slot) (d : D) (ρ : Env) : readV 12 (s0 :: s1 :: s2 :: s3 :: s4 :: s5 :: s6 :: s7 :: s8 :: s9 :: s10 :: s11 :: .val d :: ρ) = some (.ok d, s0 :: s1 :: s2 :: s3 :: s4 :: s5 :: s6 :: s7 :: s8 :: s9 :: s10 :: s11 :: .val d :: ρ) := rfl
theorem rl_12 (s0 s1 s2 s3 s4 s5 s6 s7 s8 s9 s10 s11 : Slot) (xs : List D) (ρ : Env) : readV 12 (s0 :: s1 :: s2 :: s3 :: s4 :: s5 :: s6 :: s7 :: s8 :: s9 :: s10 :: s11 :: .own (.lst xs) false :: ρ) = some (.ok (.lst xs), s0 :: s1 :: s2 :: s3 :: s4 :: s5 :: s6 :: s7 :: s8 :: s9 :: s10 :: s11 :: .val (.lst xs) :: ρ) := rfl
theorem rc_12 (s0 s1 s2 s3 s4 s5 s6 s7 s8 s9 s10 s11 : Slot) (ks : List Ky) (xs : List D) (ρ : Env) : readV 12 (s0 :: s1 :: s2 :: s3 :: s4 :: s5 :: s6 :: s7 :: s8 :: s9 :: s10 :: s11 :: .own (.dic ks xs) false :: ρ) = some (.ok (.dic ks xs), s0 :: s1 :: s2 :: s3 :: s4 :: s5 :: s6 :: s7 :: s8 :: s9 :: s10 :: s11 :: .val (.dic ks xs) :: ρ) := rfl
theorem ri_12 (s0 s1 s2 s3 s4 s5 s6 s7 s8 s9 s10 s11 : Slot) (c : Nat) (fs : List Str) (xs : List D) (ρ : Env) : readV 12 (s0 :: s1 :: s2 :: s3 :: s4 :: s5 :: s6 :: s7 :: s8 :: s9 :: s10 :: s11 :: .own (.ins c fs xs) false :: ρ) = some (.ok (.ins c fs xs), s0 :: s1 :: s2 :: s3 :: s4 :: s5 :: s6 :: s7 :: s8 :: s9 :: s10 :: s11 :: .val (.ins c fs xs) :: ρ) := rfl
theorem sv_12 (s0 s1 s2 s3 s4 s5 s6 s7 s8 s9 s10 s11 : Slot) (d : D) (w : W) (ρ : Env) : setV 12 w (s0 :: s1 :: s2 :: s3 :: s4 :: s5 :: s6 :: s7 :: s8 :: s9 :: s10 :: s11 :: .val d :: ρ) = some (.ok (), s0 :: s1 :: s2 :: s3 :: s4 :: s5 :: s6 :: s7 :: s8 :: s9 :: s10 :: s11 :: w.slot :: ρ) := rfl
theorem su_12 (s0 s1 s2 s3 s4 s5 s6 s7 s8 s9 s10 s11 : Slot) (w : W) (ρ : Env) : setV 12 w (s0 :: s1 :: s2 :: s3 :: s4 :: s5 :: s6 :: s7 :: s8 :: s9 :: s10 :: s11 :: .un :: ρ) = some (.ok (), s0 :: s1 :: s2 :: s3 :: s4 :: s5 :: s6 :: s7 :: s8 :: s9 :: s10 :: s11 :: w.slot :: ρ) := rfl
theorem so_12 (s0 s1 s2 s3 s4 s5 s6 s7 s8 s9 s10 s11 : Slot) (o : Ob) (w : W) (ρ : Env) : setV 12 w (s0 :: s1 :: s2 :: s3 :: s4 :: s5 :: s6 :: s7 :: s8 :: s9 :: s10 :: s11 :: .own o false :: ρ) = some (.ok (), s0 :: s1 :: s2 :: s3 :: s4 :: s5 :: s6 :: s7 :: s8 :: s9 :: s10 :: s11 :: w.slot :: ρ) := rfl
theorem cg_12 (s0 s1 s2 s3 s4 s5 s6 s7 s8 s9 s10 s11 : Slot) (f : Ob → Option Ob) (o : Ob) (m : Bool) (ρ : Env) : chg 12 f (s0 :: s1 :: s2 :: s3 :: s4 :: s5 :: s6 :: s7 :: s8 :: s9 :: s10 :: s11 :: .own o m :: ρ) = match f o with
    | some o' => some (.ok (), s0 :: s1 :: s2 :: s3 :: s4 :: s5 :: s6 :: s7 :: s8 :: s9 :: s10 :: s11 :: .own o' m :: ρ)
    | none => none := rfl
theorem hd_12 (s0 s1 s2 s3 s4 s5 s6 s7 s8 s9 s10 s11 : Slot) (p : Ob → Bool) (o : Ob) (m : Bool) (ρ : Env) : holds 12 p (s0 :: s1 :: s2 :: s3 :: s4 :: s5 :: s6 :: s7 :: s8 :: s9 :: s10 :: s11 :: .own o m :: ρ) = if p o then some (.ok (), s0 :: s1 :: s2 :: s3 :: s4 :: s5 :: s6 :: s7 :: s8 :: s9 :: s10 :: s11 :: .own o m :: ρ) else none := rfl
theorem io_12 (s0 s1 s2 s3 s4 s5 s6 s7 s8 s9 s10 s11 : Slot) (o : Ob) (m : Bool) (ρ : Env) : hasIo 12 (s0 :: s1 :: s2 :: s3 :: s4 :: s5 :: s6 :: s7 :: s8 :: s9 :: s10 :: s11 :: .own o m :: ρ) = some (.ok (), s0 :: s1 :: s2 :: s3 :: s4 :: s5 :: s6 :: s7 :: s8 :: s9 :: s10 :: s11 :: .own o m :: ρ) := rfl
theorem cd_12_0 (C : Cfg) (f : Nat) (s0 s1 s2 s3 s4 s5 s6 s7 s8 s9 s10 s11 : Slot) (o : Ob) (m : Bool) (ρ : Env) : callM C f [.io 12] (s0 :: s1 :: s2 :: s3 :: s4 :: s5 :: s6 :: s7 :: s8 :: s9 :: s10 :: s11 :: .own o m :: ρ) = gotD 12 (C.call f [.o o]) (s0 :: s1 :: s2 :: s3 :: s4 :: s5 :: s6 :: s7 :: s8 :: s9 :: s10 :: s11 :: .own o m :: ρ) := rfl
theorem cd_12_1 (C : Cfg) (f : Nat) (s0 s1 s2 s3 s4 s5 s6 s7 s8 s9 s10 s11 : Slot) (o : Ob) (m : Bool) (x0 : D) (ρ : Env) : callM C f [.io 12, .v x0] (s0 :: s1 :: s2 :: s3 :: s4 :: s5 :: s6 :: s7 :: s8 :: s9 :: s10 :: s11 :: .own o m :: ρ) = gotD 12 (C.call f [.o o, .v x0]) (s0 :: s1 :: s2 :: s3 :: s4 :: s5 :: s6 :: s7 :: s8 :: s9 :: s10 :: s11 :: .own o m :: ρ) := rfl
theorem cd_12_2 (C : Cfg) (f : Nat) (s0 s1 s2 s3 s4 s5 s6 s7 s8 s9 s10 s11 : Slot) (o : Ob) (m : Bool) (x0 x1 : D) (ρ : Env) : callM C f [.io 12, .v x0, .v x1] (s0 :: s1 :: s2 :: s3 :: s4 :: s5 :: s6 :: s7 :: s8 :: s9 :: s10 :: s11 :: .own o m :: ρ) = gotD 12 (C.call f [.o o, .v x0, .v x1]) (s0 :: s1 :: s2 :: s3 :: s4 :: s5 :: s6 :: s7 :: s8 :: s9 :: s10 :: s11 :: .own o m :: ρ) := rfl
theorem cd_12_3 (C : Cfg) (f : Nat) (s0 s1 s2 s3 s4 s5 s6 s7 s8 s9 s10 s11 : Slot) (o : Ob) (m : Bool) (x0 x1 x2 : D) (ρ : Env) : callM C f [.io 12, .v x0, .v x1, .v x2] (s0 :: s1 :: s2 :: s3 :: s4 :: s5 :: s6 :: s7 :: s8 :: s9 :: s10 :: s11 :: .own o m :: ρ) = gotD 12 (C.call f [.o o, .v x0, .v x1, .v x2]) (s0 :: s1 :: s2 :: s3 :: s4 :: s5 :: s6 :: s7 :: s8 :: s9 :: s10 :: s11 :: .own o m :: ρ) := rfl
theorem gd_12 (s0 s1 s2 s3 s4 s5 s6 s7 s8 s9 s10 s11 : Slot) (o o' : Ob) (m : Bool) (w : W) (ρ : Env) : gotD 12 (some ⟨.ok w, [o']⟩) (s0 :: s1 :: s2 :: s3 :: s4 :: s5 :: s6 :: s7 :: s8 :: s9 :: s10 :: s11 :: .own o m :: ρ) = some (.ok w, s0 :: s1 :: s2 :: s3 :: s4 :: s5 :: s6 :: s7 :: s8 :: s9 :: s10 :: s11 :: .own o' m :: ρ) := rfl
theorem rd_13 (s0 s1 s2 s3 s4 s5 s6 s7 s8 s9 s10 s11 s12 : Slot) (d : D) (ρ : Env) : readV 13 (s0 :: s1 :: s2 :: s3 :: s4 :: s5 :: s6 :: s7 :: s8 :: s9 :: s10 :: s11 :: s12 :: .val d :: ρ) = some (.ok d, s0 :: s1 :: s2 :: s3 :: s4 :: s5 :: s6 :: s7 :: s8 :: s9 :: s10 :: s11 :: s12 :: .val d :: ρ) := rfl
theorem rl_13 (s0 s1 s2 s3 s4 s5 s6 s7 s8 s9 s10 s11 s12 : Slot) (xs : List D) (ρ : Env) : readV 13 (s0 :: s1 :: s2 :: s3 :: s4 :: s5 :: s6 :: s7 :: s8 :: s9 :: s10 :: s11 :: s12 :: .own (.lst xs) false :: ρ) = some (.ok (.lst xs), s0 :: s1 :: s2 :: s3 :: s4 :: s5 :: s6 :: s7 :: s8 :: s9 :: s10 :: s11 :: s12 :: .val (.lst xs) :: ρ) := rfl
theorem rc_13 (s0 s1 s2 s3 s4 s5 s6 s7 s8 s9 s10 s11 s12 : Slot) (ks : List Ky) (xs : List D) (ρ : Env) : readV 13 (s0 :: s1 :: s2 :: s3 :: s4 :: s5 :: s6 :: s7 :: s8 :: s9 :: s10 :: s11 :: s12 :: .own (.dic ks xs) false :: ρ) = some (.ok (.dic ks xs), s0 :: s1 :: s2 :: s3 :: s4 :: s5 :: s6 :: s7 :: s8 :: s9 :: s10 :: s11 :: s12 :: .val (.dic ks xs) :: ρ) := rfl
theorem ri_13 (s0 s1 s2 s3 s4 s5 s6 s7 s8 s9 s10 s11 s12 : Slot) (c : Nat) (fs : List Str) (xs : List D) (ρ : Env) : readV 13 (s0 :: s1 :: s2 :: s3 :: s4 :: s5 :: s6 :: s7 :: s8 :: s9 :: s10 :: s11 :: s12 :: .own (.ins c fs xs) false :: ρ) = some (.ok (.ins c fs xs), s0 :: s1 :: s2 :: s3 :: s4 :: s5 :: s6 :: s7 :: s8 :: s9 :: s10 :: s11 :: s12 :: .val (.ins c fs xs) :: ρ) := rfl
theorem sv_13 (s0 s1 s2 s3 s4 s5 s6 s7 s8 s9 s10 s11 s12 : Slot) (d : D) (w : W) (ρ : Env) : setV 13 w (s0 :: s1 :: s2 :: s3 :: s4 :: s5 :: s6 :: s7 :: s8 :: s9 :: s10 :: s11 :: s12 :: .val d :: ρ) = some (.ok (), s0 :: s1 :: s2 :: s3 :: s4 :: s5 :: s6 :: s7 :: s8 :: s9 :: s10 :: s11 :: s12 :: w.slot :: ρ) := rfl
theorem su_13 (s0 s1 s2 s3 s4 s5 s6 s7 s8 s9 s10 s11 s12 : Slot) (w : W) (ρ : Env) : setV 13 w (s0 :: s1 :: s2 :: s3 :: s4 :: s5 :: s6 :: s7 :: s8 :: s9 :: s10 :: s11 :: s12 :: .un :: ρ) = some (.ok (), s0 :: s1 :: s2 :: s3 :: s4 :: s5 :: s6 :: s7 :: s8 :: s9 :: s10 :: s11 :: s12 :: w.slot :: ρ) := rfl
theorem so_13 (s0 s1 s2 s3 s4 s5 s6 s7 s8 s9 s10 s11 s12 : Slot) (o : Ob) (w : W) (ρ : Env) : setV 13 w (s0 :: s1 :: s2 :: s3 :: s4 :: s5 :: s6 :: s7 :: s8 :: s9 :: s10 :: s11 :: s12 :: .own o false :: ρ) = some (.ok (), s0 :: s1 :: s2 :: s3 :: s4 :: s5 :: s6 :: s7 :: s8 :: s9 :: s10 :: s11 :: s12 :: w.slot :: ρ) := rfl
theorem cg_13 (s0 s1 s2 s3 s4 s5 s6 s7 s8 s9 s10 s11 s12 : Slot) (f : Ob → Option Ob) (o : Ob) (m : Bool) (ρ : Env) : chg 13 f (s0 :: s1 :: s2 :: s3 :: s4 :: s5 :: s6 :: s7 :: s8 :: s9 :: s10 :: s11 :: s12 :: .own o m :: ρ) = match f o with
    | some o' => some (.ok (), s0 :: s1 :: s2 :: s3 :: s4 :: s5 :: s6 :: s7 :: s8 :: s9 :: s10 :: s11 :: s12 :: .own o' m :: ρ)
    | none => none := rfl
theorem hd_13 (s0 s1 s2 s3 s4 s5 s6 s7 s8 s9 s10 s11 s12 : Slot) (p : Ob → Bool) (o : Ob) (m : Bool) (ρ : Env) : holds 13 p (s0 :: s1 :: s2 :: s3 :: s4 :: s5 :: s6 :: s7 :: s8 :: s9 :: s10 :: s11 :: s12 :: .own o m :: ρ) = if p o then some (.ok (), s0 :: s1 :: s2 :: s3 :: s4 :: s5 :: s6 :: s7 :: s8 :: s9 :: s10 :: s11 :: s12 :: .own o m :: ρ) else none := rfl
theorem io_13 (s0 s1 s2 s3 s4 s5 s6 s7 s8 s9 s10 s11 s12 : Slot) (o : Ob) (m : Bool) (ρ : Env) : hasIo 13 (s0 :: s1 :: s2 :: s3 :: s4 :: s5 :: s6 :: s7 :: s8 :: s9 :: s10 :: s11 :: s12 :: .own o m :: ρ) = some (.ok (), s0 :: s1 :: s2 :: s3 :: s4 :: s5 :: s6 :: s7 :: s8 :: s9 :: s10 :: s11 :: s12 :: .own o m :: ρ) := rfl
theorem cd_13_0 (C : Cfg) (f : Nat) (s0 s1 s2 s3 s4 s5 s6 s7 s8 s9 s10 s11 s12 : Slot) (o : Ob) (m : Bool) (ρ : Env) : callM C f [.io 13] (s0 :: s1 :: s2 :: s3 :: s4 :: s5 :: s6 :: s7 :: s8 :: s9 :: s10 :: s11 :: s12 :: .own o m :: ρ) = gotD 13 (C.call f [.o o]) (s0 :: s1 :: s2 :: s3 :: s4 :: s5 :: s6 :: s7 :: s8 :: s9 :: s10 :: s11 :: s12 :: .own o m :: ρ) := rfl
theorem cd_13_1 (C : Cfg) (f : Nat) (s0 s1 s2 s3 s4 s5 s6 s7 s8 s9 s10 s11 s12 : Slot) (o : Ob) (m : Bool) (x0 : D) (ρ : Env) : callM C f [.io 13, .v x0] (s0 :: s1 :: s2 :: s3 :: s4 :: s5 :: s6 :: s7 :: s8 :: s9 :: s10 :: s11 :: s12 :: .own o m :: ρ) = gotD 13 (C.call f [.o o, .v x0]) (s0 :: s1 :: s2 :: s3 :: s4 :: s5 :: s6 :: s7 :: s8 :: s9 :: s10 :: s11 :: s12 :: .own o m :: ρ) := rfl
theorem cd_13_2 (C : Cfg) (f : Nat) (s0 s1 s2 s3 s4 s5 s6 s7 s8 s9 s10 s11 s12 : Slot) (o : Ob) (m : Bool) (x0 x1 : D) (ρ : Env) : callM C f [.io 13, .v x0, .v x1] (s0 :: s1 :: s2 :: s3 :: s4 :: s5 :: s6 :: s7 :: s8 :: s9 :: s10 :: s11 :: s12 :: .own o m :: ρ) = gotD 13 (C.call f [.o o, .v x0, .v x1]) (s0 :: s1 :: s2 :: s3 :: s4 :: s5 :: s6 :: s7 :: s8 :: s9 :: s10 :: s11 :: s12 :: .own o m :: ρ) := rfl
theorem cd_13_3 (C : Cfg) (f : Nat) (s0 s1 s2 s3 s4 s5 s6 s7 s8 s9 s10 s11 s12 : Slot) (o : Ob) (m : Bool) (x0 x1 x2 : D) (ρ : Env) : callM C f [.io 13, .v x0, .v x1, .v x2] (s0 :: s1 :: s2 :: s3 :: s4 :: s5 :: s6 :: s7 :: s8 :: s9 :: s10 :: s11 :: s12 :: .own o m :: ρ) = gotD 13 (C.call f [.o o, .v x0, .v x1, .v x2]) (s0 :: s1 :: s2 :: s3 :: s4 :: s5 :: s6 :: s7 :: s8 :: s9 :: s10 :: s11 :: s12 :: .own o m :: ρ) := rfl
theorem gd_13 (s0 s1 s2 s3 s4 s5 s6 s7 s8 s9 s10 s11 s12 : Slot) (o o' : Ob) (m : Bool) (w : W) (ρ : Env) : gotD 13 (some ⟨.ok w, [o']⟩) (s0 :: s1 :: s2 :: s3 :: s4 :: s5 :: s6 :: s7 :: s8 :: s9 :: s10 :: s11 :: s12 :: .own o m :: ρ) = some (.ok w, s0 :: s1 :: s2 :: s3 :: s4 :: s5 :: s6 :: s7 :: s8 :: s9 :: s10 :: s11 :: s12 :: .own o' m :: ρ) := rfl
theorem rd_14 (s0 s1 s2 s3 s4 s5 s6 s7 s8 s9 s10 s11 s12 s13 : Slot) (d : D) (ρ : Env) : readV 14 (s0 :: s1 :: s2 :: s3 :: s4 :: s5 :: s6 :: s7 :: s8 :: s9 :: s10 :: s11 :: s12 :: s13 :: .val d :: ρ) = some (.ok d, s0 :: s1 :: s2 :: s3 :: s4 :: s5 :: s6 :: s7 :: s8 :: s9 :: s10 :: s11 :: s12 :: s13 :: .val d :: ρ) := rfl
theorem rl_14 (s0 s1 s2 s3 s4 s5 s6 s7 s8 s9 s10 s11 s12 s13 : Slot) (xs : List D) (ρ : Env) : readV 14 (s0 :: s1 :: s2 :: s3 :: s4 :: s5 :: s6 :: s7 :: s8 :: s9 :: s10 :: s11 :: s12 :: s13 :: .own (.lst xs) false :: ρ) = some (.ok (.lst xs), s0 :: s1 :: s2 :: s3 :: s4 :: s5 :: s6 :: s7 :: s8 :: s9 :: s10 :: s11 :: s12 :: s13 :: .val (.lst xs) :: ρ) := rfl
theorem rc_14 (s0 s1 s2 s3 s4 s5 s6 s7 s8 s9 s10 s11 s12 s13 : Slot) (ks : List Ky) (xs : List D) (ρ : Env) : readV 14 (s0 :: s1 :: s2 :: s3 :: s4 :: s5 :: s6 :: s7 :: s8 :: s9 :: s10 :: s11 :: s12 :: s13 :: .own (.dic ks xs) false :: ρ) = some (.ok (.dic ks xs), s0 :: s1 :: s2 :: s3 :: s4 :: s5 :: s6 :: s7 :: s8 :: s9 :: s10 :: s11 :: s12 :: s13 :: .val (.dic ks xs) :: ρ) := rfl
theorem ri_14 (s0 s1 s2 s3 s4 s5 s6 s7 s8 s9 s10 s11 s12 s13 : Slot) (c : Nat) (fs : List Str) (xs : List D) (ρ : Env) : readV 14 (s0 :: s1 :: s2 :: s3 :: s4 :: s5 :: s6 :: s7 :: s8 :: s9 :: s10 :: s11 :: s12 :: s13 :: .own (.ins c fs xs) false :: ρ) = some (.ok (.ins c fs xs), s0 :: s1 :: s2 :: s3 :: s4 :: s5 :: s6 :: s7 :: s8 :: s9 :: s10 :: s11 :: s12 :: s13 :: .val (.ins c fs xs) :: ρ) := rfl
theorem sv_14 (s0 s1 s2 s3 s4 s5 s6 s7 s8 s9 s10 s11 s12 s13 : Slot) (d : D) (w : W) (ρ : Env) : setV 14 w (s0 :: s1 :: s2 :: s3 :: s4 :: s5 :: s6 :: s7 :: s8 :: s9 :: s10 :: s11 :: s12 :: s13 :: .val d :: ρ) = some (.ok (), s0 :: s1 :: s2 :: s3 :: s4 :: s5 :: s6 :: s7 :: s8 :: s9 :: s10 :: s11 :: s12 :: s13 :: w.slot :: ρ) := rfl
theorem su_14 (s0 s1 s2 s3 s4 s5 s6 s7 s8 s9 s10 s11 s12 s13 : Slot) (w : W) (ρ : Env) : setV 14 w (s0 :: s1 :: s2 :: s3 :: s4 :: s5 :: s6 :: s7 :: s8 :: s9 :: s10 :: s11 :: s12 :: s13 :: .un :: ρ) = some (.ok (), s0 :: s1 :: s2 :: s3 :: s4 :: s5 :: s6 :: s7 :: s8 :: s9 :: s10 :: s11 :: s12 :: s13 :: w.slot :: ρ) := rfl
theorem so_14 (s0 s1 s2 s3 s4 s5 s6 s7 s8 s9 s10 s11 s12 s13 : Slot) (o : Ob) (w : W) (ρ : Env) : setV 14 w (s0 :: s1 :: s2 :: s3 :: s4 :: s5 :: s6 :: s7 :: s8 :: s9 :: s10 :: s11 :: s12 :: s13 :: .own o false :: ρ) = some (.ok (), s0 :: s1 :: s2 :: s3 :: s4 :: s5 :: s6 :: s7 :: s8 :: s9 :: s10 :: s11 :: s12 :: s13 :: w.slot :: ρ) := rfl
theorem cg_14 (s0 s1 s2 s3 s4 s5 s6 s7 s8 s9 s10 s11 s12 s13 : Slot) (f : Ob → Option Ob) (o : Ob) (m : Bool) (ρ : Env) : chg 14 f (s0 :: s1 :: s2 :: s3 :: s4 :: s5 :: s6 :: s7 :: s8 :: s9 :: s10 :: s11 :: s12 :: s13 :: .own o m :: ρ) = match f o with
    | some o' => some (.ok (), s0 :: s1 :: s2 :: s3 :: s4 :: s5 :: s6 :: s7 :: s8 :: s9 :: s10 :: s11 :: s12 :: s13 :: .own o' m :: ρ)
    | none => none := rfl
theorem hd_14 (s0 s1 s2 s3 s4 s5 s6 s7 s8 s9 s10 s11 s12 s13 : Slot) (p : Ob → Bool) (o : Ob) (m : Bool) (ρ : Env) : holds 14 p (s0 :: s1 :: s2 :: s3 :: s4 :: s5 :: s6 :: s7 :: s8 :: s9 :: s10 :: s11 :: s12 :: s13 :: .own o m :: ρ) = if p o then some (.ok (), s0 :: s1 :: s2 :: s3 :: s4 :: s5 :: s6 :: s7 :: s8 :: s9 :: s10 :: s11 :: s12 :: s13 :: .own o m :: ρ) else none := rfl
theorem io_14 (s0 s1 s2 s3 s4 s5 s6 s7 s8 s9 s10 s11 s12 s13 : Slot) (o : Ob) (m : Bool) (ρ : Env) : hasIo 14 (s0 :: s1 :: s2 :: s3 :: s4 :: s5 :: s6 :: s7 :: s8 :: s9 :: s10 :: s11 :: s12 :: s13 :: .own o m :: ρ) = some (.ok (), s0 :: s1 :: s2 :: s3 :: s4 :: s5 :: s6 :: s7 :: s8 :: s9 :: s10 :: s11 :: s12 :: s13 :: .own o m :: ρ) := rfl
theorem cd_14_0 (C : Cfg) (f : Nat) (s0 s1 s2 s3 s4 s5 s6 s7 s8 s9 s10 s11 s12 s13 : Slot) (o : Ob) (m : Bool) (ρ : Env) : callM C f [.io 14] (s0 :: s1 :: s2 :: s3 :: s4 :: s5 :: s6 :: s7 :: s8 :: s9 :: s10 :: s11 :: s12 :: s13 :: .own o m :: ρ) = gotD 14 (C.call f [.o o]) (s0 :: s1 :: s2 :: s3 :: s4 :: s5 :: s6 :: s7 :: s8 :: s9 :: s10 :: s11 :: s12 :: s13 :: .own o m :: ρ) := rfl
theorem cd_14_1 (C : Cfg) (f : Nat) (s0 s1 s2 s3 s4 s5 s6 s7 s8 s9 s10 s11 s12 s13 : Slot) (o : Ob) (m : Bool) (x0 : D) (ρ : Env) : callM C f [.io 14, .v x0] (s0 :: s1 :: s2 :: s3 :: s4 :: s5 :: s6 :: s7 :: s8 :: s9 :: s10 :: s11 :: s12 :: s13 :: .own o m :: ρ) = gotD 14 (C.call f [.o o, .v x0]) (s0 :: s1 :: s2 :: s3 :: s4 :: s5 :: s6 :: s7 :: s8 :: s9 :: s10 :: s11 :: s12 :: s13 :: .own o m :: ρ) := rfl
theorem cd_14_2 (C : Cfg) (f : Nat) (s0 s1 s2 s3 s4 s5 s6 s7 s8 s9 s10 s11 s12 s13 : Slot) (o : Ob) (m : Bool) (x0 x1 : D) (ρ : Env) : callM C f [.io 14, .v x0, .v x1] (s0 :: s1 :: s2 :: s3 :: s4 :: s5 :: s6 :: s7 :: s8 :: s9 :: s10 :: s11 :: s12 :: s13 :: .own o m :: ρ) = gotD 14 (C.call f [.o o, .v x0, .v x1]) (s0 :: s1 :: s2 :: s3 :: s4 :: s5 :: s6 :: s7 :: s8 :: s9 :: s10 :: s11 :: s12 :: s13 :: .own o m :: ρ) := rfl
theorem cd_14_3 (C : Cfg) (f : Nat) (s0 s1 s2 s3 s4 s5 s6 s7 s8 s9 s10 s11 s12 s13 : Slot) (o : Ob) (m : Bool) (x0 x1 x2 : D) (ρ : Env) : callM C f [.io 14, .v x0, .v x1, .v x2] (s0 :: s1 :: s2 :: s3 :: s4 :: s5 :: s6 :: s7 :: s8 :: s9 :: s10 :: s11 :: s12 :: s13 :: .own o m :: ρ) = gotD 14 (C.call f [.o o, .v x0, .v x1, .v x2]) (s0 :: s1 :: s2 :: s3 :: s4 :: s5 :: s6 :: s7 :: s8 :: s9 :: s10 :: s11 :: s12 :: s13 :: .own o m :: ρ) := rfl
theorem gd_14 (s0 s1 s2 s3 s4 s5 s6 s7 s8 s9 s10 s11 s12 s13 : Slot) (o o' : Ob) (m : Bool) (w : W) (ρ : Env) : gotD 14 (some ⟨.ok w, [o']⟩) (s0 :: s1 :: s2 :: s3 :: s4 :: s5 :: s6 :: s7 :: s8 :: s9 :: s10 :: s11 :: s12 :: s13 :: .own o m :: ρ) = some (.ok w, s0 :: s1 :: s2 :: s3 :: s4 :: s5 :: s6 :: s7 :: s8 :: s9 :: s10 :: s11 :: s12 :: s13 :: .own o' m :: ρ) := rfl
theorem app_lst (d : D) (xs : List D) : appO d (.lst xs) = if xs.length < lim then some (.lst (xs ++ [d])) else none := rfl
theorem ext_lst (ys xs : List D) : extO (.lst ys) (.lst xs) = if xs.length + ys.length ≤ lim then some (.lst (xs ++ ys)) else none := rfl
theorem isL_lst (xs : List D) : Ob.isL (.lst xs) = true := rfl
theorem isD_dic (ks : List Ky) (xs : List D) : Ob.isD (.dic ks xs) = true := rfl
def noX {α : Type} : Option (R α × Env) → Option (R α × Env)
  | some (.ok a, ρ') => some (.ok a, ρ')
  | _ => none
theorem noEx_app {α : Type} (m : M α) (ρ : Env) : noEx m ρ = noX (m ρ) := by
  unfold noEx noX
  rfl
theorem noX_ok {α : Type} (a : α) (ρ : Env) : noX (some (R.ok a, ρ)) = some (R.ok a, ρ) := rfl
theorem wipe_nil (ρ : Env) : wipeE ρ [] = ρ := rfl
theorem wipe_cons (ρ : Env) (i : Nat) (is : List Nat) : wipeE ρ (i :: is) = (wipeE ρ is).set i .un := rfl
theorem back_nil (ρ0 ρ : Env) : backE ρ0 ρ [] = ρ := rfl
theorem back_cons (ρ0 ρ : Env) (i : Nat) (is : List Nat) : backE ρ0 ρ (i :: is) = (backE ρ0 ρ is).set i (ρ0.getD i .un) := rfl
def pAt (i : Nat) (ρ : Env) : Bool := match ρ[i]? with
  | some .un | some (.val _) => true
  | _ => false
theorem plain_nil (ρ : Env) : plainAt ρ [] = true := rfl
theorem plain_cons (ρ : Env) (i : Nat) (is : List Nat) : plainAt ρ (i :: is) = (pAt i ρ && plainAt ρ is) := rfl
theorem pAt_s (i : Nat) (s : Slot) (ρ : Env) : pAt (i + 1) (s :: ρ) = pAt i ρ := rfl
theorem pAt_un (ρ : Env) : pAt 0 (.un :: ρ) = true := rfl
theorem pAt_val (d : D) (ρ : Env) : pAt 0 (.val d :: ρ) = true := rfl
theorem gt_0 (s : Slot) (ρ : Env) : (s :: ρ).getD 0 .un = s := rfl
theorem gt_s (i : Nat) (s : Slot) (ρ : Env) : (s :: ρ).getD (i + 1) .un = ρ.getD i .un := rfl
theorem set_0 (s t : Slot) (ρ : Env) : (s :: ρ).set 0 t = t :: ρ := rfl
theorem set_s (i : Nat) (s t : Slot) (ρ : Env) : (s :: ρ).set (i + 1) t = s :: ρ.set i t := rfl
theorem and_tt : (true && true) = true := rfl
/-- a row's tables -/
structure PTab where
  fns : List Fn
  glv : List D
  mth : List (Nat × Str × Nat)
  fld : List (Nat × Str)
  ini : List (Nat × Nat)
  art : List Nat
  xsb : List (Nat × List (Nat × Bool)) := []
  xvl : List (Nat × Bool) := []
  xfl : List (Nat × List Str) := []
  cau : List Nat := []
  lam0 : Nat := 1000
def PTab.prog (T : PTab) : Prog where
  fn := fun i => T.fns[i]?
  hand := fun _ _ => none
  glob := fun g => T.glv[g]?
  meth := fun c m => (T.mth.find? fun q => q.1 == c && q.2.1 == m).map (·.2.2)
  flds := fun c f => T.fld.any fun q => q.1 == c && q.2 == f
  init := fun c => T.ini.lookup c
  arity := fun f => T.art.getD f 0
  loops := 16777216
  xsub := fun c k => (T.xsb.lookup c).bind fun r => r.lookup k
  xval := fun c => T.xvl.lookup c
  xfl := fun c => T.xfl.lookup c
  caught := fun c => T.cau.contains c
  lam0 := T.lam0
abbrev okD (d : D) : Option Res := some ⟨.ok (.val d), []⟩
end Py.Pl
set_option linter.all false
set_option maxRecDepth 100000
set_option maxHeartbeats 1000000
/-! PlB: rules for exceptions, lambdas, dicts, calls by name -/
namespace Py.Pl
open PySem (Str)
open M
section
variable {C : Cfg} {ρ : Env}
theorem d_callP (f : Nat) (pm : List Nat) (as : List Ar) : den C (.callP f pm as) ρ = bndR (denAs C as ρ) fun vs => callM C f (permL pm vs) := by simp only [den, bnd_app] <;> rfl
theorem d_callN (f : Nat) (es : List E) : den C (.callN f es) ρ = bndR (denEs C es ρ) fun ds => callNM C f ds := by simp only [den, bnd_app] <;> rfl
theorem d_isc (e : E) (c : Nat) : den C (.isc e c) ρ = bndR (opd e (den C e) ρ) fun x => fin1 e x fun x => match x with
    | .exc k _ _ => blM (C.xsub k c)
    | _ => stuck := by simp only [den, bnd_app] <;> rfl
theorem d_isv (e : E) : den C (.isv e) ρ = bndR (opd e (den C e) ρ) fun x => fin1 e x fun x => match x with
    | .exc k _ _ => blM (C.xval k)
    | _ => stuck := by simp only [den, bnd_app] <;> rfl
theorem d_mkx (c : Nat) (es : List E) : den C (.mkx c es) ρ = bndR (denEs C es ρ) fun ds => bnd (mkxX C c ds) fun x => ret (.val (.exc x.c x.fs x.xs)) := by simp only [den, bnd_app] <;> rfl
theorem d_sdf (i : Nat) (k v : E) : den C (.sdf i k v) ρ = bndR (sdfH i ρ) fun _ => bnd (fzM (den C k)) fun kd => bnd (fzM (den C v)) fun d => sdfM i kd d := by simp only [den, bnd_app] <;> rfl
def lerrR (C : Cfg) (r : Option (R W × Env)) : Option (R W × Env) := if C.lamOk then (match r with
    | some (.ok _, ρ') => some (.ok (.val .non), ρ')
    | some (.ex x, ρ') => if C.caught x.c then some (.ok (.val (.exc x.c x.fs x.xs)), ρ') else none
    | none => none) else none
theorem d_lerr (e : E) : den C (.lerr e) ρ = lerrR C (den C e ρ) := by
  unfold lerrR
  simp only [den] <;> rfl
theorem lerr_ok (w : W) (ρ' : Env) (h : C.lamOk = true) : lerrR C (some (.ok w, ρ')) = some (.ok (.val .non), ρ') := by
  unfold lerrR
  rw [h]
  rfl
theorem lerr_ex (x : Exn) (ρ' : Env) (h : C.lamOk = true) (h2 : C.caught x.c = true) : lerrR C (some (.ex x, ρ')) = some (.ok (.val (.exc x.c x.fs x.xs)), ρ') := by
  unfold lerrR
  rw [h, if_pos rfl]
  show (if C.caught x.c = true then _ else _) = _
  rw [if_pos h2]
theorem s_seti (i : Nat) (k e : E) : denS C (.seti i k e) ρ = bndR (holds i Ob.isD ρ) fun _ => bnd (fzM (den C e)) fun d => bnd (fzM (den C k)) fun kd => nxt (chg i (putO kd d)) := by simp only [denS, bnd_app] <;> rfl
theorem s_rse (c : Nat) (es : List E) : denS C (.rse c es) ρ = bndR (denEs C es ρ) fun ds => bnd (mkxX C c ds) fun x => raise x := by simp only [denS, bnd_app] <;> rfl
theorem raise_app {α : Type} (x : Exn) (ρ : Env) : (raise x : M α) ρ = some (.ex x, ρ) := rfl
theorem sq_ex (x : Exn) (ρ : Env) (k : M Fl) : sqR (some (.ex x, ρ)) k = some (.ex x, ρ) := rfl
theorem next_ex (x : Exn) (ρ : Env) (k : M Fl) : nextR (some (.ex x, ρ)) k = some (.ex x, ρ) := rfl
theorem gotV_ex (x : Exn) (ρ : Env) : gotV (some ⟨.ex x, []⟩) ρ = some (.ex x, ρ) := rfl
theorem bindP_lst (ps : List Pat) (ds : List D) : bindP (.tup ps) (.lst ds) = if ps.length = ds.length then bindPs ps ds else stuck := rfl
theorem op_sdf (i : Nat) (k v : E) (mm : M W) (ρ : Env) : opd (.sdf i k v) mm ρ = bndR (mm ρ) fun w => lift w.fz := opd_none rfl mm ρ
theorem f1_sdf (i : Nat) (k v : E) (xx : D) (kk : D → M W) (ρ : Env) : fin1 (.sdf i k v) xx kk ρ = kk xx ρ := fin1_none rfl xx kk ρ
theorem fa_sdf (i : Nat) (k v : E) (rr : List E) (dd : D) (ds : List D) (ρ : Env) : finAll (.sdf i k v :: rr) (dd :: ds) ρ = match finAll rr ds ρ with
    | some xs => some (dd :: xs)
    | _ => none := fA_none rfl rr dd ds ρ
theorem op_isc (e : E) (c : Nat) (mm : M W) (ρ : Env) : opd (.isc e c) mm ρ = bndR (mm ρ) fun w => lift w.fz := opd_none rfl mm ρ
theorem f1_isc (e : E) (c : Nat) (xx : D) (kk : D → M W) (ρ : Env) : fin1 (.isc e c) xx kk ρ = kk xx ρ := fin1_none rfl xx kk ρ
theorem fa_isc (e : E) (c : Nat) (rr : List E) (dd : D) (ds : List D) (ρ : Env) : finAll (.isc e c :: rr) (dd :: ds) ρ = match finAll rr ds ρ with
    | some xs => some (dd :: xs)
    | _ => none := fA_none rfl rr dd ds ρ
theorem op_lerr (e : E) (mm : M W) (ρ : Env) : opd (.lerr e) mm ρ = bndR (mm ρ) fun w => lift w.fz := opd_none rfl mm ρ
theorem f1_lerr (e : E) (xx : D) (kk : D → M W) (ρ : Env) : fin1 (.lerr e) xx kk ρ = kk xx ρ := fin1_none rfl xx kk ρ
theorem fa_lerr (e : E) (rr : List E) (dd : D) (ds : List D) (ρ : Env) : finAll (.lerr e :: rr) (dd :: ds) ρ = match finAll rr ds ρ with
    | some xs => some (dd :: xs)
    | _ => none := fA_none rfl rr dd ds ρ
theorem op_callP (f : Nat) (pm : List Nat) (as : List Ar) (mm : M W) (ρ : Env) : opd (.callP f pm as) mm ρ = bndR (mm ρ) fun w => lift w.fz := opd_none rfl mm ρ
theorem f1_callP (f : Nat) (pm : List Nat) (as : List Ar) (xx : D) (kk : D → M W) (ρ : Env) : fin1 (.callP f pm as) xx kk ρ = kk xx ρ := fin1_none rfl xx kk ρ
theorem fa_callP (f : Nat) (pm : List Nat) (as : List Ar) (rr : List E) (dd : D) (ds : List D) (ρ : Env) : finAll (.callP f pm as :: rr) (dd :: ds) ρ = match finAll rr ds ρ with
    | some xs => some (dd :: xs)
    | _ => none := fA_none rfl rr dd ds ρ
theorem op_callN (f : Nat) (es : List E) (mm : M W) (ρ : Env) : opd (.callN f es) mm ρ = bndR (mm ρ) fun w => lift w.fz := opd_none rfl mm ρ
theorem f1_callN (f : Nat) (es : List E) (xx : D) (kk : D → M W) (ρ : Env) : fin1 (.callN f es) xx kk ρ = kk xx ρ := fin1_none rfl xx kk ρ
theorem fa_callN (f : Nat) (es : List E) (rr : List E) (dd : D) (ds : List D) (ρ : Env) : finAll (.callN f es :: rr) (dd :: ds) ρ = match finAll rr ds ρ with
    | some xs => some (dd :: xs)
    | _ => none := fA_none rfl rr dd ds ρ
theorem permL_nil {α : Type} (l : List α) : permL [] l = [] := rfl
theorem perm_3 (pm : List Nat) (a b c : AV) : permL pm [a, b, c] = pm.filterMap fun i => [a, b, c][i]? := rfl
end
theorem run_ex {C : Cfg} {f : Fn} {args : List Arg} {x : Exn} {os : List Ob} {ρ ρ' : Env} (h : slots f.pars args = some ρ) (he : denSs C f.body (ρ ++ List.replicate (f.slots - ρ.length) .un) = some (.ex x, ρ')) (hb : backsOf f.pars ρ' = some os) :
    runFn C f args = some ⟨.ex x, os⟩ := by
  unfold runFn
  simp only [h, he, hb, Option.map_some]
end Py.Pl
set_option Elab.async false
set_option linter.all false
set_option maxRecDepth 100000
set_option maxHeartbeats 4000000
/-! PyXc: what the kernel looks at, of an own class of exceptions with an __init__. -/
namespace Py
open PySem PySem.Spec L2 PySem.SeqAt PyProof.Rows
def oexB (K : PySem.W.Frag) (C : Addr) : Bool := (match K.lookup C with
  | some ⟨.type "type", _, .cls cd, sl⟩ => (match cd.mro, sl.toList with
    | .ref C' :: bm, [_, _, _, _, some (.builtin n), _] => C' == C && (n == "ValueError.__new__" && (!cd.hasDel && (cd.hasDict && PySem.HandSPX.refsVE bm)))
    | _, _ => false)
  | _ => false) && (He.eqO (PySem.W.findIn K (.ref C) "__setattr__") (some (some (.builtin "object.__setattr__"))) && (decide (PySem.W.subIn K (.ref C) (.type "BaseException") = some true) && (decide (PySem.W.typeIn K (.ref C) = some (.type "type")) && PySem.W.keepIn K (.ref C))))
theorem oexB_ok {K : PySem.W.Frag} {C : Addr} (h : oexB K C = true) : OexC K C := by
  unfold oexB at h
  obtain ⟨h1, h⟩ := Bool.and_eq_true_iff.mp h
  obtain ⟨h2, h⟩ := Bool.and_eq_true_iff.mp h
  obtain ⟨h3, h⟩ := Bool.and_eq_true_iff.mp h
  obtain ⟨h4, h5⟩ := Bool.and_eq_true_iff.mp h
  refine ⟨?_, He.eqO_ok h2, of_decide_eq_true h3, of_decide_eq_true h4, h5⟩
  split at h1
  · rename_i dd cd sl ho
    split at h1
    · rename_i C' bm k0 k1 k2 k3 n k5 hm hs
      simp only [Bool.and_eq_true, beq_iff_eq, Bool.not_eq_true'] at h1
      obtain ⟨rfl, rfl, hdel, hdict, ht⟩ := h1
      obtain ⟨nm, bs, mro, ns, qn, hd, sn, sub, ab, col, del⟩ := cd
      dsimp only at hm hdel hdict
      subst hm hdel hdict
      have hsl : sl = #[k0, k1, k2, k3, some (.builtin "ValueError.__new__"), k5] := by
        obtain ⟨l⟩ := sl
        simp only at hs
        rw [hs]
      subst hsl
      exact ⟨nm, qn, ns, bs, bm, sn, sub, ab, col, dd, k0, k1, k2, k3, k5, ho, ht⟩
    · cases h1
  · cases h1
def parB (fs : List Str) : Arguments → Bool
  | ⟨[], as, none, [], [], none, []⟩ => decide (as.map (·.arg) = ("self" : Str) :: fs)
  | _ => false
theorem parB_ok {fs : List Str} {p : Arguments} (h : parB fs p = true) : ∃ as, p = ⟨[], as, none, [], [], none, []⟩ ∧ as.map (·.arg) = ("self" : Str) :: fs := by
  unfold parB at h
  split at h
  · exact ⟨_, rfl, of_decide_eq_true h⟩
  · cases h
def bodB (fs : List Str) : FuncBody → Bool
  | .stmts b => isInit fs b
  | _ => false
theorem bodB_ok {fs : List Str} {p : FuncBody} (h : bodB fs p = true) : ∃ b, p = .stmts b ∧ isInit fs b = true := by
  unfold bodB at h
  split at h
  · exact ⟨_, rfl, h⟩
  · cases h
def isNon : Value → Bool
  | .none => true
  | _ => false
theorem isNon_ok {v : Value} (h : isNon v = true) : v = .none := by
  unfold isNon at h
  split at h
  · rfl
  · cases h
def cloB (K : PySem.W.Frag) (C : Addr) : List (Str × Addr) → Bool
  | [(x, cc)] => x == ("__class__" : Str) && (match K.lookup cc with
    | some ⟨_, _, .cell (some (.ref D)), _⟩ => D == C
    | _ => false)
  | _ => false
theorem cloB_ok {K : PySem.W.Frag} {C : Addr} {l : List (Str × Addr)} (h : cloB K C l = true) : ∃ cc, l = [(("__class__" : Str), cc)] ∧ ∃ oc od osl, K.lookup cc = some ⟨oc, od, .cell (some (.ref C)), osl⟩ := by
  unfold cloB at h
  split at h
  · rw [Bool.and_eq_true, beq_iff_eq] at h
    obtain ⟨rfl, h⟩ := h
    refine ⟨_, rfl, ?_⟩
    split at h
    · rename_i oc od D osl ho
      rw [beq_iff_eq] at h
      subst h
      exact ⟨_, _, _, ho⟩
    · cases h
  · cases h
def codB (file : Str) (K : PySem.W.Frag) (q : Str) : Value → Bool
  | .ref c => PySem.W.codeIn K (.ref c) q && (match K.lookup c with
    | some ⟨_, _, .fields vs, _⟩ => (match (vs[2]? : Option Value) with
      | some (.str f _) => file == f
      | _ => false)
    | _ => false)
  | _ => false
theorem codB_ok {file : Str} {K : PySem.W.Frag} {q : Str} {v : Value} (h : codB file K q v = true) : ∃ c, v = .ref c ∧ PySem.W.codeIn K (.ref c) q = true ∧ ∃ oc od vs osl f tf, K.lookup c = some ⟨oc, od, .fields vs, osl⟩ ∧ vs[2]? = some (.str f tf) ∧ (file == f) = true := by
  unfold codB at h
  split at h
  · rw [Bool.and_eq_true] at h
    refine ⟨_, rfl, h.1, ?_⟩
    have h2 := h.2
    split at h2
    · rename_i oc od vs osl ho
      split at h2
      · rename_i f tf hv
        exact ⟨_, _, _, _, _, _, ho, hv, h2⟩
      · cases h2
    · cases h2
  · cases h
def scoB (fs : List Str) (s : Scope) : Bool := decide (s.kind = .function) && (!s.isCoroutine && (!s.isGenerator && (decide (s.names.lookup ("super" : Str) = some .globalImplicit) && (decide (s.names.lookup ("__class__" : Str) = some .free) &&
  ((("self" : Str) :: fs).all (fun f => decide (s.names.lookup f = some .local) && !(f == ("__debug__" : Str))) && s.names.all fun x => decide (x.2 ≠ .cell))))))
/-- the class at C has an __init__ that stores fs -/
def exiB (file : Str) (K : PySem.W.Frag) (C : Addr) (fs : List Str) : Bool :=
  oexB K C && ((match PySem.W.findIn K (.ref C) "__init__" with
  | some (some (.ref fI)) => decide (PySem.W.typeIn K (.ref fI) = some (.type "function")) && (match K.lookup fI with
    | some ⟨_, _, .func fd, _⟩ => parB fs fd.params && (isNon fd.defaults && (bodB fs fd.body && (cloB K C fd.closure && (decide (fd.globals = mainGlobals) && (decide (fd.builtins = builtinsNs) && (codB file K fd.qualname fd.code && scoB fs fd.scope))))))
    | _ => false)
  | _ => false) && (He.eqO (PySem.W.ks_superIn K C C "__init__") (some (some (.builtin "ValueError.__init__"))) && (He.eqO (PySem.W.nsIn K cStatics "thirdparty.any") (some none) && (decide (PySem.W.subIn K (.ref C) (.type "ValueError") = some true) && (decide (PySem.W.mroIn K C (.ref C) = some true) &&
    (fs.all (fun f => He.eqO (PySem.W.findIn K (.ref C) f) (some none)) && (decide ((("self" : Str) :: fs).Nodup) && (!fs.isEmpty && decide (fs.length ≤ 900)))))))))
theorem exiB_ok {P : Program} {K : PySem.W.Frag} {C : Addr} {fs : List Str} (htop : (P.main.scope.names.lookup ("super" : Str)).isSome = false) (h : exiB P.main.file K C fs = true) : ExiC P K C fs := by
  unfold exiB at h
  simp only [Bool.and_eq_true, decide_eq_true_eq] at h
  obtain ⟨h1, h2, h3, h4, h5, h6, h7, h8, h9, h10⟩ := h
  refine ⟨oexB_ok h1, ?_, He.eqO_ok h3, He.eqO_ok h4, h5, h6, htop, fun f hf => ?_, h8, ?_, h10⟩
  · split at h2
    · rename_i fI hi
      rw [Bool.and_eq_true, decide_eq_true_eq] at h2
      obtain ⟨h2a, h2⟩ := h2
      split at h2
      · rename_i oc od fd osl ho
        unfold scoB at h2
        simp only [Bool.and_eq_true, decide_eq_true_eq, Bool.not_eq_true', List.all_eq_true] at h2
        obtain ⟨i1, i2, i3, i4, i5, i6, i7, j1, j2, j3, j4, j5, j6, j7⟩ := h2
        obtain ⟨as, e1, e2⟩ := parB_ok i1
        obtain ⟨b, e3, e4⟩ := bodB_ok i3
        obtain ⟨cc, e5, e6⟩ := cloB_ok i4
        obtain ⟨cda, e7, e8, oc', od', vs, osl', f, tf, e9, e10, e11⟩ := codB_ok i7
        exact ⟨fI, fd, as, b, cc, cda, hi, h2a, ⟨⟨oc, od, osl, ho⟩, e1, e2, isNon_ok i2, e3, e4, e5, i5, i6, e7, by rw [← e7]; rw [e7]; exact e8, j1, j2, j3, j4, j5, j6, j7, ⟨oc', od', vs, osl', f, tf, e9, e10, e11⟩, e6⟩⟩
      · cases h2
    · cases h2
  · exact He.eqO_ok (List.all_eq_true.mp h7 f hf)
  · intro z
    subst z
    cases h9
end Py
set_option Elab.async false
set_option linter.all false
set_option maxRecDepth 100000
set_option maxHeartbeats 4000000
/-! PyXe: the head's hook, with the machine's statics and sys.modules. -/
namespace Py
open PySem PySem.Spec L2 PyProof.Rows
def asY (g : Addr → Option Obj) (n : Nat) : List Addr := cStatics :: sysModules :: He.asD g n
def obsY (n : Nat) (fa : List He.Fa) (fn : List He.DefD) (ts : List He.Tab) (tf : List He.Defn) (ex : PySem.W.Frag → Bool) (g : Addr → Option Obj) : He.AlX := (He.obsT fa fn ts (He.frT g (asY g n)), ex (He.frT g (asY g n)) && He.tabsB g tf (He.frT g (asY g n)))
theorem saysY_of {as : List Addr} {fa : List He.Fa} {fn : List He.DefD} {ts : List He.Tab} {tf : List He.Defn} {ex : PySem.W.Frag → Bool} {w : World} {h : Heap} (e1 : He.obsT fa fn ts (He.frT h.get? as) = He.valT fn ts w)
    (e2 : (ex (He.frT h.get? as) && He.tabsB h.get? tf (He.frT h.get? as)) = true) : He.SaysX fa fn ts tf ex w h (He.frT h.get? as) := by
  rw [Bool.and_eq_true] at e2
  have key : ∀ p ∈ tf, PySem.W.codeHdIn (He.frT h.get? as) (He.cT (He.frT h.get? as) p).1 (He.cT (He.frT h.get? as) p).2 = true ∧ ∃ o, h.get? (He.cT (He.frT h.get? as) p).2 = some o ∧ He.emptyTab o = true := fun p hp => by
    have z := List.all_eq_true.mp e2.2 p hp
    rw [Bool.and_eq_true] at z
    refine ⟨z.1, ?_⟩
    have z2 := z.2
    cases q : h.get? (He.cT (He.frT h.get? as) p).2 with
    | none => rw [q] at z2; cases z2
    | some o => rw [q] at z2; exact ⟨o, rfl, z2⟩
  exact ⟨e1, e2.1, fun p hp => (key p hp).1, fun p hp => by
    obtain ⟨_, o, q, z⟩ := key p hp
    exact He.frT_none q z, fun p hp => by
    obtain ⟨_, o, q, z⟩ := key p hp
    rw [q, He.emptyTab_eq z]⟩
def hookY (n : Nat) (fa : List He.Fa) (fn : List He.DefD) (ts : List He.Tab) (tf : List He.Defn) (ex : PySem.W.Frag → Bool) : PySem.W.Hook where
  α := He.AlX
  obs := fun s => obsY n fa fn ts tf ex s.heap.get?
  val := fun w => He.valX fn ts w
  says := fun w h => ∃ K : PySem.W.Frag, K.In h ∧ He.SaysX fa fn ts tf ex w h K
  of := fun _ _ e => ⟨_, He.frT_in, saysY_of (congrArg (fun z : He.AlX => z.1) e) (congrArg (fun z : He.AlX => z.2) e)⟩
  keeps := fun _ _ _ ⟨K, hK, c⟩ k => ⟨K, PySem.W.Frag.In.keeps hK k, ⟨c.t, c.more, c.hd, c.out, fun p hp => k _ _ (c.empty p hp)⟩⟩
theorem obsY_eq {n : Nat} {fa : List He.Fa} {fn : List He.DefD} {ts : List He.Tab} {tf : List He.Defn} {ex : PySem.W.Frag → Bool} {g : Addr → Option Obj} {s : Shared} (h : ∀ a, g a = s.heap.get? a) : obsY n fa fn ts tf ex g = (hookY n fa fn ts tf ex).obs s := by
  have e : g = s.heap.get? := funext h
  rw [e] <;> rfl
/-- what is looked at, in several runs -/
theorem run_and {r : PySem.W.OpenRow} {q : Program} {n M : Nat} {loose : List PySem.Str} {w : World} {fa : List He.Fa} {fn : List He.DefD} {ts : List He.Tab} {tf : List He.Defn} {e1 e2 : PySem.W.Frag → Bool}
    (h1 : HandSHeadRun.RunEq r q (hookY n fa fn ts tf e1) (fun s => obsY n fa fn ts tf e1 (HandSHeadRun.getT s)) M loose w) (h2 : HandSHeadRun.RunEq r q (hookY n [] [] [] [] e2) (fun s => obsY n [] [] [] [] e2 (HandSHeadRun.getT s)) M loose w) :
    HandSHeadRun.RunEq r q (hookY n fa fn ts tf fun K => e1 K && e2 K) (fun s => obsY n fa fn ts tf (fun K => e1 K && e2 K) (HandSHeadRun.getT s)) M loose w := by
  intro os
  obtain ⟨s, e, a⟩ := Option.map_eq_some_iff.mp (h1 os)
  obtain ⟨s', e', b⟩ := Option.map_eq_some_iff.mp (h2 os)
  rw [e] at e'
  cases e'
  refine Option.map_eq_some_iff.mpr ⟨s, e, ?_⟩
  have a1 := congrArg (fun z => z.1) a
  have a2 := congrArg (fun z => z.2.1) a
  have a3 : obsY n fa fn ts tf e1 (HandSHeadRun.getT s) = He.valX fn ts w := congrArg (fun z => z.2.2) a
  have b3 : obsY n [] [] [] [] e2 (HandSHeadRun.getT s) = He.valX [] [] w := congrArg (fun z => z.2.2) b
  have c1 : He.obsT fa fn ts (He.frT (HandSHeadRun.getT s) (asY (HandSHeadRun.getT s) n)) = He.valT fn ts w := congrArg (fun z : He.AlX => z.1) a3
  have c2 : (e1 (He.frT (HandSHeadRun.getT s) (asY (HandSHeadRun.getT s) n)) && He.tabsB (HandSHeadRun.getT s) tf (He.frT (HandSHeadRun.getT s) (asY (HandSHeadRun.getT s) n))) = true := congrArg (fun z : He.AlX => z.2) a3
  have c3 : (e2 (He.frT (HandSHeadRun.getT s) (asY (HandSHeadRun.getT s) n)) && He.tabsB (HandSHeadRun.getT s) [] (He.frT (HandSHeadRun.getT s) (asY (HandSHeadRun.getT s) n))) = true := congrArg (fun z : He.AlX => z.2) b3
  have d : obsY n fa fn ts tf (fun K => e1 K && e2 K) (HandSHeadRun.getT s) = He.valX fn ts w := by
    unfold obsY He.valX
    rw [c1]
    rw [Bool.and_eq_true] at c2 c3
    show (He.valT fn ts w, ((e1 (He.frT (HandSHeadRun.getT s) (asY (HandSHeadRun.getT s) n)) && e2 (He.frT (HandSHeadRun.getT s) (asY (HandSHeadRun.getT s) n))) && He.tabsB (HandSHeadRun.getT s) tf (He.frT (HandSHeadRun.getT s) (asY (HandSHeadRun.getT s) n)))) = _
    rw [c2.1, c2.2, c3.1]
    rfl
  exact Prod.ext a1 (Prod.ext a2 d)
end Py
set_option Elab.async false
set_option linter.all false
set_option maxRecDepth 100000
set_option maxHeartbeats 8000000
/-! PyHf: a row's tables, and what follows from them. -/
namespace Py
open PySem PySem.Spec L2 PySem.SeqAt PyProof.Rows
/-- the row's text, by tables -/
structure HTab where
  p : Pl.PTab
  ds : List He.DefD
  Ns : List (List Str)
  ps : List (List Str)
  cn : List Str
  t : Tc
  law : Nat
  /-- classes of exceptions -/
  xn : List Str := []
  /-- the class that the law's try names -/
  fe : Str := ""
  /-- which defs make lambdas -/
  lbs : List Bool := []
  /-- .. their numbers, the names that their lambdas bear -/
  lams : List (Nat × Str) := []
  /-- where the program lies -/
  file : Str := ""
variable (T : HTab)
def HTab.psf (T : HTab) (i : Nat) : List Str := T.ps.getD i []
def HTab.fa (T : HTab) : List He.Fa :=
  T.t.fns.map (fun p => He.Fa.glo p.1) ++ (T.t.blt.map He.Fa.free ++ (T.cn.map He.Fa.glo ++ ((T.cn.filter (fun x => !T.xn.contains x)).map He.Fa.cls ++ (T.t.cls.map (fun p => He.Fa.mkr p.1) ++
    (T.p.mth.map (fun q => He.Fa.meth (T.cn.getD q.1 "") q.2.1) ++ (T.p.fld.map (fun q => He.Fa.noat (T.cn.getD q.1 "") q.2) ++ ((T.t.xcs.filter (fun p => decide (T.p.xfl.lookup p.2 = some []))).map (fun p => He.Fa.exc p.1) ++ (T.p.cau.map (fun c => He.Fa.exm (T.cn.getD c "") T.fe true) ++ T.t.ler.map He.Fa.glo))))))))
/-- the defs that make lambdas -/
def HTab.tf (T : HTab) : List He.Defn := T.lams.map fun l => match T.ds[l.1]? with
  | some d => d.at_
  | none => ("", none)
/-- their tables -/
def HTab.nmT (T : HTab) (K : PySem.W.Frag) : List (Addr × Str) := T.lams.map fun l => ((He.cT K (match T.ds[l.1]? with
  | some d => d.at_
  | none => ("", none))).2, l.2)
/-- what the class D must say of its instances -/
def excCB (K : PySem.W.Frag) (D : Addr) : Bool :=
  He.eqO (PySem.W.findIn K (.ref D) "__getattribute__") (some (some (.builtin "BaseException.__getattribute__"))) && (He.eqO (PySem.W.findIn K (.ref D) "__getattr__") (some none) && (decide (PySem.W.subIn K (.ref D) (.type "BaseException") = some true) && (PySem.W.hasDictIn K D &&
    (He.eqO (PySem.W.findIn K (.ref D) "__class__") (some (some (.builtin "object.__class__"))) && (He.eqO (PySem.W.specialIn K (.builtin "object.__class__") "__get__") (some (some (.builtin "getset_descriptor.__get__"))) &&
      (decide (PySem.W.takesIn K (.builtin "object.__class__") = some true) && decide (PySem.W.mroIn K D (.type "object") = some true)))))))
theorem excCB_ok {K : PySem.W.Frag} {D : Addr} (h : excCB K D = true) : ExcC K D := by
  unfold excCB at h
  simp only [Bool.and_eq_true, decide_eq_true_eq] at h
  exact ⟨He.eqO_ok h.1, He.eqO_ok h.2.1, h.2.2.1, h.2.2.2.1, He.eqO_ok h.2.2.2.2.1, He.eqO_ok h.2.2.2.2.2.1, h.2.2.2.2.2.2.1, h.2.2.2.2.2.2.2⟩
def HTab.tabs (T : HTab) : List He.Tab := T.t.gls.flatMap fun q => match T.p.glv[q.2]? with
  | some d => tabOf q.1 d
  | none => []
def HTab.exA (T : HTab) (K : PySem.W.Frag) : Bool := (T.t.gls.all fun q => match T.p.glv[q.2]? with
  | some d => gloB K q.1 d
  | none => true) && (decide (((T.nmT K).map (·.1)).Nodup) && (K.lookup sysModules).isSome)
def HTab.exB (T : HTab) (K : PySem.W.Frag) : Bool := T.p.xsb.all fun q => excCB K (clsAt K T.cn q.1) && q.2.all fun r => decide (PySem.W.kitOne K (.ref (clsAt K T.cn q.1)) (.ref (clsAt K T.cn r.1)) = some r.2)
def HTab.exC (T : HTab) (K : PySem.W.Frag) : Bool := (T.p.xvl.all fun q => excCB K (clsAt K T.cn q.1) && decide (PySem.W.kitOne K (.ref (clsAt K T.cn q.1)) (.type "ValueError") = some q.2)) && (T.p.xfl.all fun q => q.2.isEmpty || (exiB T.file K (clsAt K T.cn q.1) q.2 && xfB K (clsAt K T.cn q.1)))
def HTab.ex (T : HTab) (K : PySem.W.Frag) : Bool := (T.exA K && T.exB K) && T.exC K
def trL (t : Tc) : List He.DefD → List (List Str) → List (List Bool) → List Bool → List Fn
  | d :: ds, N :: Ns, p :: ps, b :: bs => ⟨N.length, p, trSs { t with N := N, sc := d.scope, lam := b } 60 d.body⟩ :: trL t ds Ns ps bs
  | _, _, _, _ => []
theorem trL_at {t : Tc} : ∀ {ds : List He.DefD} {Ns : List (List Str)} {ps : List (List Bool)} {bs : List Bool} {i : Nat} {g : Fn}, (trL t ds Ns ps bs)[i]? = some g →
    ∃ d N b, ds[i]? = some d ∧ Ns[i]? = some N ∧ bs[i]? = some b ∧ g.slots = N.length ∧ g.body = trSs { t with N := N, sc := d.scope, lam := b } 60 d.body
  | [], _, _, _, i, g, h => by
    have h' : ([] : List Fn)[i]? = some g := h
    simp at h'
  | _ :: _, [], _, _, i, g, h => by
    have h' : ([] : List Fn)[i]? = some g := h
    simp at h'
  | _ :: _, _ :: _, [], _, i, g, h => by
    have h' : ([] : List Fn)[i]? = some g := h
    simp at h'
  | _ :: _, _ :: _, _ :: _, [], i, g, h => by
    have h' : ([] : List Fn)[i]? = some g := h
    simp at h'
  | d :: ds, N :: Ns, p :: ps, b :: bs, 0, g, h => by
    have h' : (⟨N.length, p, trSs { t with N := N, sc := d.scope, lam := b } 60 d.body⟩ : Fn) = g := by
      have := h
      unfold trL at this
      simpa using this
    subst h'
    exact ⟨d, N, b, rfl, rfl, rfl, rfl, rfl⟩
  | d :: ds, N :: Ns, p :: ps, b :: bs, i + 1, g, h => by
    have h' : (trL t ds Ns ps bs)[i]? = some g := by
      have := h
      unfold trL at this
      simpa using this
    obtain ⟨d, N, b, a, b', b2, c, e⟩ := trL_at h'
    exact ⟨d, N, b, by simpa using a, by simpa using b', by simpa using b2, c, e⟩
def eqSS (a : Option (Str × Option Str)) (b : Str × Option Str) : Bool := decide (a = some b)
/-- what the kernel looks at -/
def HTab.check (T : HTab) : Bool :=
  (T.ds.all fun d => d.dfl.isEmpty && d.kwd.isEmpty) &&
  ((List.range T.ds.length).all fun i => match T.ds[i]?, T.Ns[i]? with
    | some d, some N => scB N (T.psf i) d.scope
    | _, _ => false) &&
  (T.t.fns.all fun p => eqSS (T.ds[p.2.1]?.map (·.at_)) (p.1, none) && decide (p.2.2.1 = T.psf p.2.1)) &&
  (T.t.cls.all fun p => decide (T.cn[p.2.1]? = some p.1) && (match T.p.ini.lookup p.2.1 with
    | some f => eqSS (T.ds[f]?.map (·.at_)) (p.1, some ("__init__" : Str)) && decide ((T.psf f).length = p.2.2 + 1)
    | none => false)) &&
  (T.p.mth.all fun q => decide (q.1 < T.cn.length) && !T.xn.contains (T.cn.getD q.1 "") && eqSS (T.ds[q.2.2]?.map (·.at_)) (T.cn.getD q.1 "", some q.2.1) && decide ((T.psf q.2.2).length = T.p.art.getD q.2.2 0)) &&
  (T.p.fld.all fun q => decide (q.1 < T.cn.length) && !T.xn.contains (T.cn.getD q.1 "")) &&
  (T.t.xcs.all fun p => decide (T.cn[p.2]? = some p.1) && (match T.p.xfl.lookup p.2 with | some fs => fs.isEmpty || T.t.blt.contains "super" | none => false)) && (T.p.cau.all fun c => decide (c < T.cn.length)) && (T.p.cau.isEmpty && T.t.ler.isEmpty || T.cn.contains T.fe) &&
  ((List.range T.lbs.length).all fun i => match T.lbs[i]? with
    | some true => (match T.ds[i]? with
      | some d => T.lams.contains (i, (d.qual ++ ".<locals>.") ++ "<lambda>")
      | none => false)
    | _ => true) && (T.lams.all fun l => decide (l.1 < T.ds.length))
/-- a def that is the law's own try -/
def IsLer (T : HTab) (x : Str) : Prop := ∃ (i : Nat) (d : He.DefD) (a e n : Str) (j : Nat) (p1 p2 p3 p4 p5 p6 p7 p8 p9 p10 p11 p12 p13 p14 : Pos), T.ds[i]? = some d ∧ d.name = x ∧ d.qual = x ∧ d.at_ = (x, none) ∧ d.body = leBody a e n T.fe j p1 p2 p3 p4 p5 p6 p7 p8 p9 p10 p11 p12 p13 p14 ∧ T.psf i = [a] ∧ T.Ns[i]? = some [a, e, n] ∧
  d.scope.names.lookup T.fe = some .globalImplicit ∧ (T.fe == ("__debug__" : Str)) = false ∧ [a, e, n].Nodup ∧ d.scope.names.lookup e = some .local ∧ d.scope.names.lookup n = some .local ∧ okN a = true ∧ okN e = true ∧ okN n = true ∧ okN x = true
theorem nodup_fst {α β : Type} : ∀ {l : List (α × β)}, (l.map (·.1)).Nodup → ∀ {p q : α × β} {a : α} {b : β}, p ∈ l → (a, b) ∈ l → p.1 = a → p.2 = b
  | [], _, p, q, a, b, h, _, _ => by cases h
  | x :: l, nd, p, q, a, b, h1, h2, e => by
    rw [List.map_cons, List.nodup_cons] at nd
    rcases List.mem_cons.mp h1 with z | z
    · rcases List.mem_cons.mp h2 with z2 | z2
      · rw [z, ← z2]
      · exact absurd (List.mem_map.mpr ⟨_, z2, by rw [← z]; exact e.symm⟩) nd.1
    · rcases List.mem_cons.mp h2 with z2 | z2
      · exact absurd (List.mem_map.mpr ⟨_, z, by rw [← z2]; exact e⟩) nd.1
      · exact nodup_fst nd.2 (q := q) z z2 e
theorem mem_of_lookupN {α : Type} {k : Nat} {v : α} : ∀ {l : List (Nat × α)}, l.lookup k = some v → (k, v) ∈ l
  | [], h => by simp at h
  | (a, b) :: l, h => by
    rw [List.lookup_cons] at h
    by_cases e : (k == a) = true
    · rw [e] at h
      cases h
      rw [beq_iff_eq.mp e]
      exact List.mem_cons_self ..
    · rw [Bool.not_eq_true] at e
      rw [e] at h
      exact List.mem_cons_of_mem _ (mem_of_lookupN h)
theorem row_ok {P : Program} {w : World} {K : PySem.W.Frag} {h : Heap} {mg : Str → Option Value} {parsL : List (List Bool)} (hfile : P.main.file = T.file) (htop : (P.main.scope.names.lookup ("super" : Str)).isSome = false) (X : K.In h) (G : h.Ns mainGlobals mg) (c : He.SaysX T.fa T.ds T.tabs T.tf T.ex w h K)
    (hc : T.check = true) (htr : T.p.fns = trL T.t T.ds T.Ns parsL T.lbs) (hler : ∀ x, T.t.ler.contains x = true → IsLer T x)
    (hpos : ∀ i d, T.ds[i]? = some d → ∀ (kV doc pm : Value) (an : Option Addr) (cdv ct : Value) (us : List Value), us.length = (T.psf i).length → bindArgs (PySem.W.fnOf d.name d.qual d.params d.body d.scope Value.none kV doc pm an cdv ct) { pos := us } = pure ((T.psf i).zip us))
    (hkw : ∀ p ∈ T.t.fns, ∀ np, np ≤ p.2.2.1.length → T.t.kws.any (· == (p.1, np)) = true → ∀ d, T.ds[p.2.1]? = some d → ∀ (kV doc pm : Value) (an : Option Addr) (cdv ct : Value) (us ws : List Value), us.length = np → ws.length = (p.2.2.1.drop np).length →
      bindArgs (PySem.W.fnOf d.name d.qual d.params d.body d.scope Value.none kV doc pm an cdv ct) ⟨us, (p.2.2.1.drop np).zip ws⟩ = pure (p.2.2.1.zip (us ++ ws)))
    (hkp : ∀ q ∈ T.t.kwp, ∀ p ∈ T.t.fns, p.1 = q.1 → q.2.1 + q.2.2.1.length = p.2.2.1.length ∧ ∀ d, T.ds[p.2.1]? = some d → ∀ (kV doc pm : Value) (an : Option Addr) (cdv ct : Value) (us ws : List Value), us.length = q.2.1 → ws.length = q.2.2.1.length →
      bindArgs (PySem.W.fnOf d.name d.qual d.params d.body d.scope Value.none kV doc pm an cdv ct) ⟨us, q.2.2.1.zip ws⟩ = pure (p.2.2.1.zip (permL q.2.2.2 (us ++ ws))) ∧ (permL q.2.2.2 (us ++ ws)).length = p.2.2.1.length) :
    ∃ fd : Nat → FuncData, (∀ i d, T.ds[i]? = some d → ∀ (s : Shared) (us : List Value), us.length = (T.psf i).length → BindsTo s (fd i) ⟨us, []⟩ ((T.psf i).zip us)) ∧
      ∀ (base : Heap), (∀ p ∈ T.tf.map (He.cT K), LamX.TabB base mg p.1 p.2) → ∀ (m f : Nat), FnG P w K mg base (lv T.p.prog m) (adOf K T.ds f) (fd f) (T.psf f) (spF ⟨K, w, ⟨clsAt K T.cn, T.nmT K⟩⟩ (evalN T.p.prog m f)) := by
  have cd : He.SaysD T.fa T.ds K := He.SaysT.d c.t
  obtain ⟨fd, hfd⟩ := fds_of cd
  unfold HTab.check at hc
  simp only [Bool.and_eq_true] at hc
  obtain ⟨⟨⟨⟨⟨⟨⟨⟨⟨⟨k1, k2⟩, k3⟩, k4⟩, k5⟩, k6⟩, k7⟩, k8⟩, k9⟩, k10⟩, k11⟩ := hc
  rw [List.all_eq_true] at k1 k2 k3 k4 k5 k6 k7 k8 k10 k11
  have hex : T.ex K = true := c.more
  unfold HTab.ex HTab.exA HTab.exB HTab.exC at hex
  simp only [Bool.and_eq_true] at hex
  obtain ⟨⟨⟨x1, x3, x6⟩, x2⟩, x4, x5⟩ := hex
  rw [List.all_eq_true] at x1 x2 x4 x5
  have FD : ∀ i d, T.ds[i]? = some d → FunD K d.name d.qual d.params d.body d.scope [] [] (adOf K T.ds i) (fd i) := by
    intro i d e
    have F := hfd i d e
    have z := k1 d (List.mem_of_getElem? e)
    simp only [Bool.and_eq_true, List.isEmpty_iff] at z
    have e1 : He.DefD.dvs K d = [] := by unfold He.DefD.dvs; rw [z.1]; rfl
    have e2 : He.DefD.kws K d = [] := by unfold He.DefD.kws; rw [z.2]; rfl
    rw [e1, e2] at F
    have e3 : adOf K T.ds i = He.fAd K d.at_ := by unfold adOf; rw [e]
    rw [e3]
    exact F
  have hp : ∀ i, i < T.ds.length → PosB K fd T.psf i := by
    intro i hi
    have e : T.ds[i]? = some T.ds[i] := List.getElem?_eq_getElem hi
    exact PosB.of (ad := adOf K T.ds) (FD i _ e) (hpos i _ e)
  have cnAt : ∀ i, i < T.cn.length → T.cn[i]? = some (T.cn.getD i "") := by
    intro i hi
    rw [List.getElem?_eq_getElem hi, List.getD_eq_getElem?_getD, List.getElem?_eq_getElem hi]
    rfl
  have memC : ∀ x ∈ T.cn, He.Fa.glo x ∈ T.fa := by
    intro x hx
    simp [HTab.fa, hx]
  have memK : ∀ x ∈ T.cn, T.xn.contains x = false → He.Fa.cls x ∈ T.fa := by
    intro x hx hn
    have : He.Fa.cls x ∈ (T.cn.filter (fun x => !T.xn.contains x)).map He.Fa.cls := List.mem_map.mpr ⟨x, List.mem_filter.mpr ⟨hx, by rw [hn]; rfl⟩, rfl⟩
    simp only [HTab.fa, List.mem_append]
    exact .inr (.inr (.inr (.inl this)))
  have GG : Glb P w K mg ⟨clsAt K T.cn, T.nmT K⟩ T.p.prog (adOf K T.ds) fd T.psf T.t := by
    refine Glb.of (fa := T.fa) X G cd (fun x hx => ?_) (fun x g d hg hd => ?_) (fun p hp => ?_) (fun i hi => ?_) hp (fun p hp np hn hk s us ws hK hu hw => ?_) (fun p hp np ks pm0 hpm => ?_) (fun p hp => ?_) (fun m hm k f e => ?_) (fun x k e => ?_) (fun k b e => ?_) (fun k fs f e hf => ?_) x6 (fun k c' b e => ?_) ?_ (fun k f e => ?_)
    · simp [HTab.fa, hx]
    · have hm := mem_of_lookup hg
      have h1 := x1 _ hm
      have hd' : T.p.glv[g]? = some d := hd
      simp only [hd'] at h1
      refine gloB_ok X G h1 fun tb htb => ?_
      have htm : tb ∈ T.tabs := by
        unfold HTab.tabs
        rw [List.mem_flatMap]
        exact ⟨(x, g), hm, by simp only [hd']; exact htb⟩
      obtain ⟨i, hi⟩ := List.mem_iff_getElem?.mp htm
      exact He.SaysT.tab c.t i hi
    · have z := k3 p hp
      simp only [Bool.and_eq_true] at z
      refine ⟨?_, of_decide_eq_true z.1, of_decide_eq_true z.2⟩
      have : He.Fa.glo p.1 ∈ T.t.fns.map (fun p => He.Fa.glo p.1) := List.mem_map.mpr ⟨p, hp, rfl⟩
      simp only [HTab.fa, List.mem_append]
      exact .inl this
    · exact (FD i _ (List.getElem?_eq_getElem hi)).kp
    · have z := k3 p hp
      simp only [Bool.and_eq_true] at z
      have e1 : T.ds[p.2.1]?.map (·.at_) = some (p.1, none) := of_decide_eq_true z.1
      cases q : T.ds[p.2.1]? with
      | none => rw [q] at e1; cases e1
      | some d =>
        obtain ⟨oc, od, dV, kV, doc, pm, an, cdv, ct, osl, e, lk, hcd, hD, hK⟩ := (FD _ d q).ex
        rw [e]
        rcases hD with ⟨_, rfl⟩ | ⟨e, _⟩
        · exact .of_eq (hkw p hp np hn hk d q kV doc pm an cdv ct us ws hu hw)
        · exact absurd rfl e
    · unfold Tc.kwpAt at hpm
      obtain ⟨qq, hq, rfl⟩ := Option.map_eq_some_iff.mp hpm
      have hm1 := List.mem_of_find?_eq_some hq
      have hm2 := List.find?_some hq
      simp only [Bool.and_eq_true, beq_iff_eq] at hm2
      obtain ⟨ea, eb, ec⟩ := hm2
      obtain ⟨b1, b2⟩ := hkp qq hm1 p hp ea.symm
      rw [← eb, ← ec]
      refine ⟨b1, fun s us ws hK hu hw => ?_⟩
      have z := k3 p hp
      simp only [Bool.and_eq_true] at z
      have e1 : T.ds[p.2.1]?.map (·.at_) = some (p.1, none) := of_decide_eq_true z.1
      cases q : T.ds[p.2.1]? with
      | none => rw [q] at e1; cases e1
      | some d =>
        obtain ⟨oc, od, dV, kV, doc, pm, an, cdv, ct, osl, e, lk, hcd, hD, hK⟩ := (FD _ d q).ex
        rw [e]
        rcases hD with ⟨_, rfl⟩ | ⟨e, _⟩
        · obtain ⟨z1, z2⟩ := b2 d q kV doc pm an cdv ct us ws hu hw
          exact ⟨.of_eq z1, z2⟩
        · exact absurd rfl e
    · have z := k4 p hp
      simp only [Bool.and_eq_true] at z
      have e1 := of_decide_eq_true z.1
      have hx : p.1 ∈ T.cn := List.mem_of_getElem? e1
      refine ⟨memC _ hx, ?_, e1, ?_⟩
      · have : He.Fa.mkr p.1 ∈ T.t.cls.map (fun p => He.Fa.mkr p.1) := List.mem_map.mpr ⟨p, hp, rfl⟩
        simp only [HTab.fa, List.mem_append]
        exact .inr (.inr (.inr (.inr (.inl this))))
      · cases q : T.p.ini.lookup p.2.1 with
        | none => rw [q] at z; exact absurd z.2 (by simp)
        | some f =>
          rw [q] at z
          simp only [Bool.and_eq_true] at z
          exact ⟨f, q, of_decide_eq_true z.2.1, of_decide_eq_true z.2.2⟩
    · have e' : (T.p.mth.find? fun q => q.1 == k && q.2.1 == m).map (·.2.2) = some f := e
      obtain ⟨q, hq, rfl⟩ := Option.map_eq_some_iff.mp e'
      have hm1 := List.mem_of_find?_eq_some hq
      have hm2 := List.find?_some hq
      simp only [Bool.and_eq_true, beq_iff_eq] at hm2
      obtain ⟨rfl, rfl⟩ := hm2
      have z := k5 q hm1
      simp only [Bool.and_eq_true, decide_eq_true_eq] at z
      obtain ⟨⟨⟨z1, zn⟩, z2⟩, z3⟩ := z
      have hx := cnAt _ z1
      refine ⟨_, hx, memK _ (List.mem_of_getElem? hx) (by simpa using zn), ?_, of_decide_eq_true z2, z3⟩
      have : He.Fa.meth (T.cn.getD q.1 "") q.2.1 ∈ T.p.mth.map (fun q => He.Fa.meth (T.cn.getD q.1 "") q.2.1) := List.mem_map.mpr ⟨q, hm1, rfl⟩
      simp only [HTab.fa, List.mem_append]
      exact .inr (.inr (.inr (.inr (.inr (.inl this)))))
    · have hm := mem_of_lookup e
      have k7' := k7 _ hm
      rw [Bool.and_eq_true] at k7'
      have e1 : T.cn[k]? = some x := of_decide_eq_true k7'.1
      have hx : x ∈ T.cn := List.mem_of_getElem? e1
      have hg : mg x = some (.ref (clsAt K T.cn k)) := by
        rw [clsAt_eq e1]
        exact He.glo_ok X G (fact_mem cd (memC _ hx))
      cases q : T.p.xfl.lookup k with
      | none =>
        have z := k7'.2
        simp only [q] at z
        cases z
      | some fs =>
        have z := k7'.2
        simp only [q] at z
        refine ⟨hg, fs, q, fun e0 => ?_, fun e0 => ?_⟩
        · have f1 : He.Fa.exc x ∈ (T.t.xcs.filter (fun p => decide (T.p.xfl.lookup p.2 = some []))).map (fun p => He.Fa.exc p.1) := List.mem_map.mpr ⟨(x, k), List.mem_filter.mpr ⟨hm, by rw [decide_eq_true_eq]; rw [q, e0]⟩, rfl⟩
          have f2 : He.Fa.exc x ∈ T.fa := by
            simp only [HTab.fa, List.mem_append]
            exact .inr (.inr (.inr (.inr (.inr (.inr (.inr (.inl f1)))))))
          obtain ⟨y1, y2, y3, y4⟩ := He.exc_ok (fact_mem cd f2)
          rw [clsAt_eq e1]
          exact ⟨He.glo_ok X G (fact_mem cd (memC _ hx)), y1, y2, y3, y4⟩
        · have y := x5 _ (mem_of_lookupN q)
          have e2 : fs.isEmpty = false := by
            cases fs with
            | nil => exact absurd rfl e0
            | cons _ _ => rfl
          simp only [e2, Bool.false_or, Bool.and_eq_true] at y z
          have hsup : He.Fa.free "super" ∈ T.fa := by
            have : ("super" : Str) ∈ T.t.blt := by simpa using z
            simp [HTab.fa, this]
          have ei := y.1
          rw [← hfile] at ei
          have oc := (exiB_ok htop ei).oex
          exact ⟨hg, exiB_ok htop ei, oc.kC, oc.tyC, free_at X G cd hsup⟩
    · have z := x4 _ (mem_of_lookupN (show T.p.xvl.lookup k = some b from e))
      simp only [Bool.and_eq_true] at z
      exact ⟨excCB_ok z.1, of_decide_eq_true z.2⟩
    · have y := x5 _ (mem_of_lookupN (show T.p.xfl.lookup k = some fs from e))
      have e2 : fs.isEmpty = false := by
        cases fs with
        | nil => cases hf
        | cons _ _ => rfl
      simp only [e2, Bool.false_or, Bool.and_eq_true] at y
      have ei := y.1
      rw [← hfile] at ei
      exact ⟨xfB_ok y.2, (exiB_ok htop ei).no f hf⟩
    · have e' : ((T.p.xsb.lookup k).bind fun r => r.lookup c') = some b := e
      obtain ⟨r, hr, hb⟩ := Option.bind_eq_some_iff.mp e'
      have z := x2 _ (mem_of_lookupN hr)
      simp only [Bool.and_eq_true, List.all_eq_true] at z
      exact ⟨excCB_ok z.1, of_decide_eq_true (z.2 _ (mem_of_lookupN hb))⟩
    · refine ⟨He.ga K T.fe, fun x hx => ?_, fun k hk => ?_⟩
      · obtain ⟨i, d, a, e, n, j, p1, p2, p3, p4, p5, p6, p7, p8, p9, p10, p11, p12, p13, p14, hd, hn, hq, ha, hb, hps, hN, hfe, hdb, nd, le, ln, oa, oe, on, ox⟩ := hler x hx
        have hi : i < T.ds.length := (List.getElem?_eq_some_iff.mp hd).1
        have F := FD i d hd
        obtain ⟨oc, od, dV, kV, doc, pm, an, cdv, ct, osl, efd, lk, hcd, hD, hK⟩ := F.ex
        have hS := k2 i (List.mem_range.mpr hi)
        simp only [hd, hN] at hS
        have S := scB_ok hS
        rw [hps] at S
        rw [hn, hq, hb] at efd
        have hfeC : T.fe ∈ T.cn := by
          rw [Bool.or_eq_true] at k9
          rcases k9 with z | z
          · rw [Bool.and_eq_true, List.isEmpty_iff, List.isEmpty_iff] at z
            rw [z.2] at hx
            cases hx
          · simpa using z
        have g1 : He.Fa.glo x ∈ T.fa := by
          have : He.Fa.glo x ∈ T.t.ler.map He.Fa.glo := List.mem_map.mpr ⟨x, by simpa using hx, rfl⟩
          simp only [HTab.fa, List.mem_append]
          exact .inr (.inr (.inr (.inr (.inr (.inr (.inr (.inr (.inr this))))))))
        have bnd : L2.Binds K (fd i) [a] [] := fun s us hk hl => by
          rw [List.append_nil] at hl
          rw [List.append_nil]
          have z := FunD.bindsA F (hpos i d hd) s us (by rw [hps]; exact hl)
          rw [hps] at z
          exact z
        rw [efd] at bnd lk
        refine ⟨a, e, n, T.fe, adOf K T.ds i, d.params, d.scope, dV, kV, doc, pm, cdv, ct, oc, an, od, osl, j, p1, p2, p3, p4, p5, p6, p7, p8, p9, p10, p11, p12, p13, p14, glo_at X G cd g1 (by rw [hd]; simp [ha]), F.kp, lk, ?_, bnd, S, hfe, He.glo_ok X G (fact_mem cd (memC _ hfeC)), hdb, nd, ?_, le, ln, oa, oe, on, ox⟩
        · rw [hq] at hcd; exact hcd
        · rcases S.par a (by simp) with z | z
          · exact .inl z
          · exact .inr (.inl z)
      · have hk' : k ∈ T.p.cau := by
          have : T.p.cau.contains k = true := hk
          simpa using this
        have f1 : He.Fa.exm (T.cn.getD k "") T.fe true ∈ T.p.cau.map (fun c => He.Fa.exm (T.cn.getD c "") T.fe true) := List.mem_map.mpr ⟨k, hk', rfl⟩
        have f2 : He.Fa.exm (T.cn.getD k "") T.fe true ∈ T.fa := by
          simp only [HTab.fa, List.mem_append]
          exact .inr (.inr (.inr (.inr (.inr (.inr (.inr (.inr (.inl f1))))))))
        have z := He.exm_ok (fact_mem cd f2)
        show PySem.W.exmOne K (.ref (clsAt K T.cn k)) _ = _
        rw [clsAt_eq (cnAt _ (of_decide_eq_true (k8 k hk')))]
        exact z
    · have e' : (T.p.fld.any fun q => q.1 == k && q.2 == f) = true := e
      rw [List.any_eq_true] at e'
      obtain ⟨q, hm1, hm2⟩ := e'
      simp only [Bool.and_eq_true, beq_iff_eq] at hm2
      obtain ⟨rfl, rfl⟩ := hm2
      have z := k6 q hm1
      simp only [Bool.and_eq_true] at z
      have hx := cnAt _ (of_decide_eq_true z.1)
      refine ⟨_, hx, memK _ (List.mem_of_getElem? hx) (by simpa using z.2), ?_⟩
      have : He.Fa.noat (T.cn.getD q.1 "") q.2 ∈ T.p.fld.map (fun q => He.Fa.noat (T.cn.getD q.1 "") q.2) := List.mem_map.mpr ⟨q, hm1, rfl⟩
      simp only [HTab.fa, List.mem_append]
      exact .inr (.inr (.inr (.inr (.inr (.inr (.inl this))))))
  refine ⟨fd, fun i d e s us hl => ?_, fun base hTB m f => ?_⟩
  · have hi : i < T.ds.length := (List.getElem?_eq_some_iff.mp e).1
    exact FunD.bindsA (FD i d e) (hpos i d e) s us hl
  · have := all_ok (P := P) (base := base) (c0 := 0) GG (fun f g e => ?_) (fun f e => ?_) m f
    · exact this
    · have e' : T.p.fns[f]? = some g := e
      rw [htr] at e'
      obtain ⟨d, N, b, a1, a2, a2b, a3, a4⟩ := trL_at e'
      have hi : f < T.ds.length := (List.getElem?_eq_some_iff.mp a1).1
      have z := k2 f (List.mem_range.mpr hi)
      simp only [a1, a2] at z
      refine DefOk.of (FD f d a1) (scB_ok z) a3 a4 fun hb cdv hcv hci => ?_
      subst hb
      have hlb : f < T.lbs.length := (List.getElem?_eq_some_iff.mp a2b).1
      have z2 := k10 f (List.mem_range.mpr hlb)
      simp only [a2b, a1] at z2
      have hm : (f, (d.qual ++ ".<locals>.") ++ "<lambda>") ∈ T.lams := by simpa using z2
      obtain ⟨c0, hc0⟩ : ∃ c0, cdv = .ref c0 := by
        unfold PySem.W.codeIn at hci
        cases cdv <;> first | exact ⟨_, rfl⟩ | cases hci
      obtain ⟨oc, od, dV, kV, doc, pm, an, cdv2, ct, osl, efd, lk, hcd, hD, hK⟩ := (FD f d a1).ex
      have ead : adOf K T.ds f = He.fAd K d.at_ := by unfold adOf; rw [a1]
      have eco : He.codeOf K d.at_ = c0 := by
        rw [ead] at lk
        exact He.codeOf_eq lk (by rw [hcv, hc0])
      have hmem : He.cT K d.at_ ∈ T.tf.map (He.cT K) := by
        refine List.mem_map.mpr ⟨d.at_, ?_, rfl⟩
        unfold HTab.tf
        refine List.mem_map.mpr ⟨_, hm, ?_⟩
        simp only [a1]
      have hT := hTB _ hmem
      have e1 : (He.cT K d.at_).1 = c0 := eco
      rw [e1] at hT
      have hmT : ((He.cT K d.at_).2, (d.qual ++ ".<locals>.") ++ "<lambda>") ∈ T.nmT K := by
        unfold HTab.nmT
        refine List.mem_map.mpr ⟨_, hm, ?_⟩
        simp only [a1]
      refine ⟨c0, (He.cT K d.at_).2, _, hc0, hT, rfl, hmT, fun p hp e => ?_⟩
      have nd : ((T.nmT K).map (·.1)).Nodup := of_decide_eq_true x3
      exact nodup_fst nd (q := p) hp hmT e
    · intro A outer s H args us vs Q E hr e0 hl hb r hsp
      obtain ⟨F, args, ios, w, os, _, _, _, hr, _⟩ := hsp
      cases hr
end Py
set_option linter.all false
set_option maxRecDepth 100000
namespace Py.Pl
open PySem (Str)
open M
/-! ### numbers of defs, classes, constants -/
abbrev i__law_begun : Nat := 0
abbrev i__law_mixed : Nat := 1
abbrev i__law_take : Nat := 2
abbrev i__law_pick : Nat := 3
abbrev i__law_plain_errors : Nat := 4
abbrev i__law_told_errors : Nat := 5
abbrev i__law_classes : Nat := 6
abbrev i_law : Nat := 7
abbrev c_FormError : Nat := 0
abbrev c_BadAnswers : Nat := 1
abbrev c_BadBook : Nat := 2
abbrev c_BadCells : Nat := 3
abbrev c_BadCount : Nat := 4
abbrev c_BadDeeds : Nat := 5
abbrev c_BadEnding : Nat := 6
abbrev c_BadExpression : Nat := 7
abbrev c_BadForm : Nat := 8
abbrev c_BadGoal : Nat := 9
abbrev c_BadHeads : Nat := 10
abbrev c_BadInputs : Nat := 11
abbrev c_BadKind : Nat := 12
abbrev c_BadKinds : Nat := 13
abbrev c_BadKnot : Nat := 14
abbrev c_BadLine : Nat := 15
abbrev c_BadLot : Nat := 16
abbrev c_BadMany : Nat := 17
abbrev c_BadMost : Nat := 18
abbrev c_BadName : Nat := 19
abbrev c_BadNames : Nat := 20
abbrev c_BadNotation : Nat := 21
abbrev c_BadParts : Nat := 22
abbrev c_BadPath : Nat := 23
abbrev c_BadPaths : Nat := 24
abbrev c_BadPlace : Nat := 25
abbrev c_BadPlain : Nat := 26
abbrev c_BadRow : Nat := 27
abbrev c_BadScheme : Nat := 28
abbrev c_BadSheet : Nat := 29
abbrev c_BadSheets : Nat := 30
abbrev c_BadSignature : Nat := 31
abbrev c_BadText : Nat := 32
abbrev c_BadTree : Nat := 33
abbrev c_BadUse : Nat := 34
abbrev c_BadWish : Nat := 35
abbrev c_BadWorth : Nat := 36
abbrev c_BadWriting : Nat := 37
abbrev c_NoPlain : Nat := 38
abbrev c_NoRows : Nat := 39
abbrev c_NoRule : Nat := 40
abbrev c_NotAlike : Nat := 41
abbrev c_NotClear : Nat := 42
abbrev c_NotSame : Nat := 43
abbrev c_NotWritten : Nat := 44
abbrev c_NothingDone : Nat := 45
abbrev c_NothingUndone : Nat := 46
abbrev c_OtherPlaces : Nat := 47
abbrev c_TooMany : Nat := 48
/-! ### constants -/
/-! ### the defs -/
-- ["script", "wide", ".0", "grain"]
def F__law_begun : Fn := ⟨4, [false], [
    .set 1 (.lc (.name 3) (.of (.var 0)) [(.cmp .ge (.bi .abs [(.var 3)]) (.bin .pow (.lit (.int (10))) (.lit (.int (18)))))] (.bin .sub (.bi .abs [(.var 3)]) (.bin .pow (.lit (.int (10))) (.lit (.int (18))))) [2, 3]),
    .retD 1 (.lc (.name 3) (.of (.var 0)) [] (.bin .mod (.bi .int [(.bi .abs [(.var 3)])]) (.lit (.int (2147483629)))) [2, 3])]⟩
-- ["draw", "turn", "found", "prime", "blend", "grain"]
def F__law_mixed : Fn := ⟨6, [true], [
    .par [1, 2] [(.bin .add (.drI 0 "turn") (.lit (.int (1)))), (.lit (.int (0)))],
    .drS 0 "turn" (.var 1),
    .for_ (.name 3) (.of (.lst [(.lit (.int (2147483647))), (.lit (.int (2147483629))), (.lit (.int (2147483587))), (.lit (.int (2147483579)))])) [
      .set 4 (.bin .add (.bin .mul (.lit (.int (48271))) (.var 1)) (.bin .fdiv (.var 3) (.lit (.int (37))))),
      .forC (.name 5) 0 [
        .set 4 (.bin .mod (.bi .int [(.bin .add (.bin .add (.bin .mul (.var 4) (.lit (.int (69621)))) (.var 5)) (.var 1))]) (.var 3))],
      .set 2 (.bin .add (.bin .mul (.var 2) (.lit (.int (2147483647)))) (.bin .mod (.bi .int [(.bin .pow (.var 4) (.lit (.int (5))))]) (.var 3)))],
    .ret (.var 2)]⟩
-- ["draw", "many", "found"]
def F__law_take : Fn := ⟨3, [true, false], [
    .iff (.cmp .eq (.drI 0 "rest") (.lit (.int (0)))) [
      .drS 0 "rest" (.ifE (.drW 0) (.drP 0) (.call i__law_mixed [(.io 0)]))] [],
    .set 2 (.bin .mod (.bi .int [(.drI 0 "rest")]) (.var 1)),
    .drS 0 "rest" (.bin .fdiv (.drI 0 "rest") (.var 1)),
    .ret (.var 2)]⟩
-- ["draw", "some"]
def F__law_pick : Fn := ⟨2, [true, false], [
    .ret (.idx (.var 1) (.call i__law_take [(.io 0), (.v (.bi .len [(.var 1)]))]))]⟩
-- ["found"]
def F__law_plain_errors : Fn := ⟨1, [], [
    .set 0 (.lst [(.mkx c_BadAnswers [(.lit (.str "a"))]), (.mkx c_BadBook [(.lit (.str "a"))]), (.mkx c_BadCells [(.lit (.str "a"))]), (.mkx c_BadCount [(.lit (.str "a"))]), (.mkx c_BadDeeds [(.lit (.str "a"))]), (.mkx c_BadEnding [(.lit (.str "a"))]), (.mkx c_BadExpression [(.lit (.str "a"))]), (.mkx c_BadForm [(.lit (.str "a"))]), (.mkx c_BadGoal [(.lit (.str "a"))])]),
    .set 0 (.bin .add (.var 0) (.lst [(.mkx c_BadHeads [(.lit (.str "a"))]), (.mkx c_BadInputs [(.lit (.str "a"))]), (.mkx c_BadKind [(.lit (.str "a"))]), (.mkx c_BadKinds [(.lit (.str "a"))]), (.mkx c_BadKnot [(.lit (.str "a"))]), (.mkx c_BadLine [(.lit (.str "a"))]), (.mkx c_BadLot [(.lit (.str "a"))]), (.mkx c_BadMany [(.lit (.str "a"))]), (.mkx c_BadMost [(.lit (.str "a"))]), (.mkx c_BadName [(.lit (.str "a"))])])),
    .set 0 (.bin .add (.var 0) (.lst [(.mkx c_BadNames [(.lit (.str "a"))]), (.mkx c_BadNotation [(.lit (.str "a"))]), (.mkx c_BadParts [(.lit (.str "a"))]), (.mkx c_BadPath [(.lit (.str "a"))]), (.mkx c_BadPaths [(.lit (.str "a"))]), (.mkx c_BadPlace [(.lit (.str "a"))]), (.mkx c_BadPlain [(.lit (.str "a"))]), (.mkx c_BadRow [(.lit (.str "a"))]), (.mkx c_BadScheme [(.lit (.str "a"))]), (.mkx c_BadSheet [(.lit (.str "a"))])])),
    .set 0 (.bin .add (.var 0) (.lst [(.mkx c_BadSheets [(.lit (.str "a"))]), (.mkx c_BadSignature [(.lit (.str "a"))]), (.mkx c_BadTree [(.lit (.str "a"))]), (.mkx c_BadUse [(.lit (.str "a"))]), (.mkx c_BadWish [(.lit (.str "a"))]), (.mkx c_BadWorth [(.lit (.str "a"))]), (.mkx c_BadWriting [(.lit (.str "a"))]), (.mkx c_NoPlain [(.lit (.str "a"))]), (.mkx c_NoRows [(.lit (.str "a"))]), (.mkx c_NotAlike [(.lit (.str "a"))])])),
    .set 0 (.bin .add (.var 0) (.lst [(.mkx c_NotSame [(.lit (.str "a"))]), (.mkx c_NothingDone [(.lit (.str "a"))]), (.mkx c_NothingUndone [(.lit (.str "a"))]), (.mkx c_OtherPlaces [(.lit (.str "a"))])])),
    .ret (.var 0)]⟩
-- ["one", "other", "found", "error"]
def F__law_told_errors : Fn := ⟨4, [false, false], [
    .set 2 (.lst []),
    .set 3 (.mkx c_BadText [(.var 0), (.var 1)]),
    .app 2 (.tup [(.var 3), (.lst [(.attr (.var 3) "at"), (.attr (.var 3) "wanted")]), (.lst [(.var 0), (.var 1)])]),
    .set 3 (.mkx c_NoRule [(.var 0)]),
    .app 2 (.tup [(.var 3), (.lst [(.attr (.var 3) "place")]), (.lst [(.var 0)])]),
    .set 3 (.mkx c_NotClear [(.var 0)]),
    .app 2 (.tup [(.var 3), (.lst [(.attr (.var 3) "spot")]), (.lst [(.var 0)])]),
    .set 3 (.mkx c_NotWritten [(.var 0)]),
    .app 2 (.tup [(.var 3), (.lst [(.attr (.var 3) "name")]), (.lst [(.var 0)])]),
    .set 3 (.mkx c_TooMany [(.var 0)]),
    .app 2 (.tup [(.var 3), (.lst [(.attr (.var 3) "most")]), (.lst [(.var 0)])]),
    .ret (.var 2)]⟩
-- ["error", "found", ".0", "k", "is_one"]
def F__law_classes : Fn := ⟨5, [false], [
    .set 1 (.lst [(.isc (.var 0) c_BadAnswers), (.isc (.var 0) c_BadBook), (.isc (.var 0) c_BadCells), (.isc (.var 0) c_BadCount), (.isc (.var 0) c_BadDeeds)]),
    .set 1 (.bin .add (.var 1) (.lst [(.isc (.var 0) c_BadEnding), (.isc (.var 0) c_BadExpression), (.isc (.var 0) c_BadForm), (.isc (.var 0) c_BadGoal), (.isc (.var 0) c_BadHeads)])),
    .set 1 (.bin .add (.var 1) (.lst [(.isc (.var 0) c_BadInputs), (.isc (.var 0) c_BadKind), (.isc (.var 0) c_BadKinds), (.isc (.var 0) c_BadKnot), (.isc (.var 0) c_BadLine)])),
    .set 1 (.bin .add (.var 1) (.lst [(.isc (.var 0) c_BadLot), (.isc (.var 0) c_BadMany), (.isc (.var 0) c_BadMost), (.isc (.var 0) c_BadName), (.isc (.var 0) c_BadNames)])),
    .set 1 (.bin .add (.var 1) (.lst [(.isc (.var 0) c_BadNotation), (.isc (.var 0) c_BadParts), (.isc (.var 0) c_BadPath), (.isc (.var 0) c_BadPaths), (.isc (.var 0) c_BadPlace)])),
    .set 1 (.bin .add (.var 1) (.lst [(.isc (.var 0) c_BadPlain), (.isc (.var 0) c_BadRow), (.isc (.var 0) c_BadScheme), (.isc (.var 0) c_BadSheet), (.isc (.var 0) c_BadSheets)])),
    .set 1 (.bin .add (.var 1) (.lst [(.isc (.var 0) c_BadSignature), (.isc (.var 0) c_BadText), (.isc (.var 0) c_BadTree), (.isc (.var 0) c_BadUse), (.isc (.var 0) c_BadWish)])),
    .set 1 (.bin .add (.var 1) (.lst [(.isc (.var 0) c_BadWorth), (.isc (.var 0) c_BadWriting), (.isc (.var 0) c_NoPlain), (.isc (.var 0) c_NoRows), (.isc (.var 0) c_NoRule)])),
    .set 1 (.bin .add (.var 1) (.lst [(.isc (.var 0) c_NotAlike), (.isc (.var 0) c_NotClear), (.isc (.var 0) c_NotSame), (.isc (.var 0) c_NotWritten), (.isc (.var 0) c_NothingDone)])),
    .set 1 (.bin .add (.var 1) (.lst [(.isc (.var 0) c_NothingUndone), (.isc (.var 0) c_OtherPlaces), (.isc (.var 0) c_TooMany)])),
    .ret (.lc (.tup [(.name 3), (.name 4)]) (.enm (.var 1)) [(.var 4)] (.var 3) [2, 3, 4])]⟩
-- ["script", "draw", "some", "one", "other", "told", "errors_here", "error", "classes", "mine", "due", ".0", "entry", "found"]
def F_law : Fn := ⟨14, [false], [
    .set 1 (.call i__law_begun [(.v (.var 0))]),
    .set 2 (.lst [(.lit .non), (.lit (.int (0))), (.neg (.lit (.int (7)))), (.lit (.str "x")), (.lit (.str "")), (.tup [(.lit (.int (1))), (.lit (.int (2)))]), (.lst [(.lit (.int (3)))]), (.dic ["a"] [(.lit (.int (4)))]), (.lit (.bl true)), (.bin .pow (.lit (.int (10))) (.lit (.int (20))))]),
    .par [3, 4] [(.call i__law_pick [(.io 1), (.v (.var 2))]), (.call i__law_pick [(.io 1), (.v (.var 2))])],
    .set 5 (.call i__law_told_errors [(.v (.var 3)), (.v (.var 4))]),
    .set 6 (.bin .add (.call i__law_plain_errors []) (.lc (.name 12) (.of (.var 5)) [] (.idx (.var 12) (.lit (.int (0)))) [11, 12])),
    .set 8 (.lc (.name 7) (.of (.var 6)) [] (.call i__law_classes [(.v (.var 7))]) [11, 7]),
    .iff (.or (.cmp .ne (.lc (.name 13) (.of (.var 8)) [(.cmp .ne (.bi .len [(.var 13)]) (.lit (.int (1))))] (.lit (.int (1))) [11, 13]) (.lst [])) (.cmp .ne (.lns (.lc (.name 13) (.of (.var 8)) [] (.idx (.var 13) (.lit (.int (0)))) [11, 13])) (.bi .len [(.var 6)]))) [
      .ret (.lit (.bl false))] [],
    .for_ (.tup [(.name 7), (.name 9), (.name 10)]) (.of (.var 5)) [
      .iff (.cmp .ne (.bi .repr [(.var 9)]) (.bi .repr [(.var 10)])) [
        .ret (.lit (.bl false))] []],
    .for_ (.name 7) (.of (.var 6)) [
      .iff (.or (.not (.isc (.var 7) c_FormError)) (.not (.isv (.var 7)))) [
        .ret (.lit (.bl false))] []],
    .ret (.lit (.bl true))]⟩
def pt : PTab where
  fns := [F__law_begun, F__law_mixed, F__law_take, F__law_pick, F__law_plain_errors, F__law_told_errors, F__law_classes, F_law]
  glv := []
  mth := []
  fld := []
  ini := []
  xsb := ((c_FormError, ((c_FormError, true) :: (c_BadAnswers, false) :: (c_BadBook, false) :: (c_BadCells, false) :: (c_BadCount, false) :: (c_BadDeeds, false) :: (c_BadEnding, false) :: (c_BadExpression, false) :: (c_BadForm, false) :: (c_BadGoal, false) :: (c_BadHeads, false) :: (c_BadInputs, false) :: (c_BadKind, false) :: (c_BadKinds, false) :: (c_BadKnot, false) :: (c_BadLine, false) :: (c_BadLot, false) :: (c_BadMany, false) :: (c_BadMost, false) :: (c_BadName, false) :: (c_BadNames, false) :: (c_BadNotation, false) :: (c_BadParts, false) :: (c_BadPath, false) :: (c_BadPaths, false) :: (c_BadPlace, false) :: (c_BadPlain, false) :: (c_BadRow, false) :: (c_BadScheme, false) :: (c_BadSheet, false) :: (c_BadSheets, false) :: (c_BadSignature, false) :: (c_BadText, false) :: (c_BadTree, false) :: (c_BadUse, false) :: (c_BadWish, false) :: (c_BadWorth, false) :: (c_BadWriting, false) :: (c_NoPlain, false) :: (c_NoRows, false) :: (c_NoRule, false) :: (c_NotAlike, false) :: (c_NotClear, false) :: (c_NotSame, false) :: (c_NotWritten, false) :: (c_NothingDone, false) :: (c_NothingUndone, false) :: (c_OtherPlaces, false) :: (c_TooMany, false) :: [])) :: (c_BadAnswers, ((c_FormError, true) :: (c_BadAnswers, true) :: (c_BadBook, false) :: (c_BadCells, false) :: (c_BadCount, false) :: (c_BadDeeds, false) :: (c_BadEnding, false) :: (c_BadExpression, false) :: (c_BadForm, false) :: (c_BadGoal, false) :: (c_BadHeads, false) :: (c_BadInputs, false) :: (c_BadKind, false) :: (c_BadKinds, false) :: (c_BadKnot, false) :: (c_BadLine, false) :: (c_BadLot, false) :: (c_BadMany, false) :: (c_BadMost, false) :: (c_BadName, false) :: (c_BadNames, false) :: (c_BadNotation, false) :: (c_BadParts, false) :: (c_BadPath, false) :: (c_BadPaths, false) :: (c_BadPlace, false) :: (c_BadPlain, false) :: (c_BadRow, false) :: (c_BadScheme, false) :: (c_BadSheet, false) :: (c_BadSheets, false) :: (c_BadSignature, false) :: (c_BadText, false) :: (c_BadTree, false) :: (c_BadUse, false) :: (c_BadWish, false) :: (c_BadWorth, false) :: (c_BadWriting, false) :: (c_NoPlain, false) :: (c_NoRows, false) :: (c_NoRule, false) :: (c_NotAlike, false) :: (c_NotClear, false) :: (c_NotSame, false) :: (c_NotWritten, false) :: (c_NothingDone, false) :: (c_NothingUndone, false) :: (c_OtherPlaces, false) :: (c_TooMany, false) :: [])) :: (c_BadBook, ((c_FormError, true) :: (c_BadAnswers, false) :: (c_BadBook, true) :: (c_BadCells, false) :: (c_BadCount, false) :: (c_BadDeeds, false) :: (c_BadEnding, false) :: (c_BadExpression, false) :: (c_BadForm, false) :: (c_BadGoal, false) :: (c_BadHeads, false) :: (c_BadInputs, false) :: (c_BadKind, false) :: (c_BadKinds, false) :: (c_BadKnot, false) :: (c_BadLine, false) :: (c_BadLot, false) :: (c_BadMany, false) :: (c_BadMost, false) :: (c_BadName, false) :: (c_BadNames, false) :: (c_BadNotation, false) :: (c_BadParts, false) :: (c_BadPath, false) :: (c_BadPaths, false) :: (c_BadPlace, false) :: (c_BadPlain, false) :: (c_BadRow, false) :: (c_BadScheme, false) :: (c_BadSheet, false) :: (c_BadSheets, false) :: (c_BadSignature, false) :: (c_BadText, false) :: (c_BadTree, false) :: (c_BadUse, false) :: (c_BadWish, false) :: (c_BadWorth, false) :: (c_BadWriting, false) :: (c_NoPlain, false) :: (c_NoRows, false) :: (c_NoRule, false) :: (c_NotAlike, false) :: (c_NotClear, false) :: (c_NotSame, false) :: (c_NotWritten, false) :: (c_NothingDone, false) :: (c_NothingUndone, false) :: (c_OtherPlaces, false) :: (c_TooMany, false) :: [])) :: (c_BadCells, ((c_FormError, true) :: (c_BadAnswers, false) :: (c_BadBook, false) :: (c_BadCells, true) :: (c_BadCount, false) :: (c_BadDeeds, false) :: (c_BadEnding, false) :: (c_BadExpression, false) :: (c_BadForm, false) :: (c_BadGoal, false) :: (c_BadHeads, false) :: (c_BadInputs, false) :: (c_BadKind, false) :: (c_BadKinds, false) :: (c_BadKnot, false) :: (c_BadLine, false) :: (c_BadLot, false) :: (c_BadMany, false) :: (c_BadMost, false) :: (c_BadName, false) :: (c_BadNames, false) :: (c_BadNotation, false) :: (c_BadParts, false) :: (c_BadPath, false) :: (c_BadPaths, false) :: (c_BadPlace, false) :: (c_BadPlain, false) :: (c_BadRow, false) :: (c_BadScheme, false) :: (c_BadSheet, false) :: (c_BadSheets, false) :: (c_BadSignature, false) :: (c_BadText, false) :: (c_BadTree, false) :: (c_BadUse, false) :: (c_BadWish, false) :: (c_BadWorth, false) :: (c_BadWriting, false) :: (c_NoPlain, false) :: (c_NoRows, false) :: (c_NoRule, false) :: (c_NotAlike, false) :: (c_NotClear, false) :: (c_NotSame, false) :: (c_NotWritten, false) :: (c_NothingDone, false) :: (c_NothingUndone, false) :: (c_OtherPlaces, false) :: (c_TooMany, false) :: [])) :: (c_BadCount, ((c_FormError, true) :: (c_BadAnswers, false) :: (c_BadBook, false) :: (c_BadCells, false) :: (c_BadCount, true) :: (c_BadDeeds, false) :: (c_BadEnding, false) :: (c_BadExpression, false) :: (c_BadForm, false) :: (c_BadGoal, false) :: (c_BadHeads, false) :: (c_BadInputs, false) :: (c_BadKind, false) :: (c_BadKinds, false) :: (c_BadKnot, false) :: (c_BadLine, false) :: (c_BadLot, false) :: (c_BadMany, false) :: (c_BadMost, false) :: (c_BadName, false) :: (c_BadNames, false) :: (c_BadNotation, false) :: (c_BadParts, false) :: (c_BadPath, false) :: (c_BadPaths, false) :: (c_BadPlace, false) :: (c_BadPlain, false) :: (c_BadRow, false) :: (c_BadScheme, false) :: (c_BadSheet, false) :: (c_BadSheets, false) :: (c_BadSignature, false) :: (c_BadText, false) :: (c_BadTree, false) :: (c_BadUse, false) :: (c_BadWish, false) :: (c_BadWorth, false) :: (c_BadWriting, false) :: (c_NoPlain, false) :: (c_NoRows, false) :: (c_NoRule, false) :: (c_NotAlike, false) :: (c_NotClear, false) :: (c_NotSame, false) :: (c_NotWritten, false) :: (c_NothingDone, false) :: (c_NothingUndone, false) :: (c_OtherPlaces, false) :: (c_TooMany, false) :: [])) :: (c_BadDeeds, ((c_FormError, true) :: (c_BadAnswers, false) :: (c_BadBook, false) :: (c_BadCells, false) :: (c_BadCount, false) :: (c_BadDeeds, true) :: (c_BadEnding, false) :: (c_BadExpression, false) :: (c_BadForm, false) :: (c_BadGoal, false) :: (c_BadHeads, false) :: (c_BadInputs, false) :: (c_BadKind, false) :: (c_BadKinds, false) :: (c_BadKnot, false) :: (c_BadLine, false) :: (c_BadLot, false) :: (c_BadMany, false) :: (c_BadMost, false) :: (c_BadName, false) :: (c_BadNames, false) :: (c_BadNotation, false) :: (c_BadParts, false) :: (c_BadPath, false) :: (c_BadPaths, false) :: (c_BadPlace, false) :: (c_BadPlain, false) :: (c_BadRow, false) :: (c_BadScheme, false) :: (c_BadSheet, false) :: (c_BadSheets, false) :: (c_BadSignature, false) :: (c_BadText, false) :: (c_BadTree, false) :: (c_BadUse, false) :: (c_BadWish, false) :: (c_BadWorth, false) :: (c_BadWriting, false) :: (c_NoPlain, false) :: (c_NoRows, false) :: (c_NoRule, false) :: (c_NotAlike, false) :: (c_NotClear, false) :: (c_NotSame, false) :: (c_NotWritten, false) :: (c_NothingDone, false) :: (c_NothingUndone, false) :: (c_OtherPlaces, false) :: (c_TooMany, false) :: [])) :: (c_BadEnding, ((c_FormError, true) :: (c_BadAnswers, false) :: (c_BadBook, false) :: (c_BadCells, false) :: (c_BadCount, false) :: (c_BadDeeds, false) :: (c_BadEnding, true) :: (c_BadExpression, false) :: (c_BadForm, false) :: (c_BadGoal, false) :: (c_BadHeads, false) :: (c_BadInputs, false) :: (c_BadKind, false) :: (c_BadKinds, false) :: (c_BadKnot, false) :: (c_BadLine, false) :: (c_BadLot, false) :: (c_BadMany, false) :: (c_BadMost, false) :: (c_BadName, false) :: (c_BadNames, false) :: (c_BadNotation, false) :: (c_BadParts, false) :: (c_BadPath, false) :: (c_BadPaths, false) :: (c_BadPlace, false) :: (c_BadPlain, false) :: (c_BadRow, false) :: (c_BadScheme, false) :: (c_BadSheet, false) :: (c_BadSheets, false) :: (c_BadSignature, false) :: (c_BadText, false) :: (c_BadTree, false) :: (c_BadUse, false) :: (c_BadWish, false) :: (c_BadWorth, false) :: (c_BadWriting, false) :: (c_NoPlain, false) :: (c_NoRows, false) :: (c_NoRule, false) :: (c_NotAlike, false) :: (c_NotClear, false) :: (c_NotSame, false) :: (c_NotWritten, false) :: (c_NothingDone, false) :: (c_NothingUndone, false) :: (c_OtherPlaces, false) :: (c_TooMany, false) :: [])) :: (c_BadExpression, ((c_FormError, true) :: (c_BadAnswers, false) :: (c_BadBook, false) :: (c_BadCells, false) :: (c_BadCount, false) :: (c_BadDeeds, false) :: (c_BadEnding, false) :: (c_BadExpression, true) :: (c_BadForm, false) :: (c_BadGoal, false) :: (c_BadHeads, false) :: (c_BadInputs, false) :: (c_BadKind, false) :: (c_BadKinds, false) :: (c_BadKnot, false) :: (c_BadLine, false) :: (c_BadLot, false) :: (c_BadMany, false) :: (c_BadMost, false) :: (c_BadName, false) :: (c_BadNames, false) :: (c_BadNotation, false) :: (c_BadParts, false) :: (c_BadPath, false) :: (c_BadPaths, false) :: (c_BadPlace, false) :: (c_BadPlain, false) :: (c_BadRow, false) :: (c_BadScheme, false) :: (c_BadSheet, false) :: (c_BadSheets, false) :: (c_BadSignature, false) :: (c_BadText, false) :: (c_BadTree, false) :: (c_BadUse, false) :: (c_BadWish, false) :: (c_BadWorth, false) :: (c_BadWriting, false) :: (c_NoPlain, false) :: (c_NoRows, false) :: (c_NoRule, false) :: (c_NotAlike, false) :: (c_NotClear, false) :: (c_NotSame, false) :: (c_NotWritten, false) :: (c_NothingDone, false) :: (c_NothingUndone, false) :: (c_OtherPlaces, false) :: (c_TooMany, false) :: [])) :: (c_BadForm, ((c_FormError, true) :: (c_BadAnswers, false) :: (c_BadBook, false) :: (c_BadCells, false) :: (c_BadCount, false) :: (c_BadDeeds, false) :: (c_BadEnding, false) :: (c_BadExpression, false) :: (c_BadForm, true) :: (c_BadGoal, false) :: (c_BadHeads, false) :: (c_BadInputs, false) :: (c_BadKind, false) :: (c_BadKinds, false) :: (c_BadKnot, false) :: (c_BadLine, false) :: (c_BadLot, false) :: (c_BadMany, false) :: (c_BadMost, false) :: (c_BadName, false) :: (c_BadNames, false) :: (c_BadNotation, false) :: (c_BadParts, false) :: (c_BadPath, false) :: (c_BadPaths, false) :: (c_BadPlace, false) :: (c_BadPlain, false) :: (c_BadRow, false) :: (c_BadScheme, false) :: (c_BadSheet, false) :: (c_BadSheets, false) :: (c_BadSignature, false) :: (c_BadText, false) :: (c_BadTree, false) :: (c_BadUse, false) :: (c_BadWish, false) :: (c_BadWorth, false) :: (c_BadWriting, false) :: (c_NoPlain, false) :: (c_NoRows, false) :: (c_NoRule, false) :: (c_NotAlike, false) :: (c_NotClear, false) :: (c_NotSame, false) :: (c_NotWritten, false) :: (c_NothingDone, false) :: (c_NothingUndone, false) :: (c_OtherPlaces, false) :: (c_TooMany, false) :: [])) :: (c_BadGoal, ((c_FormError, true) :: (c_BadAnswers, false) :: (c_BadBook, false) :: (c_BadCells, false) :: (c_BadCount, false) :: (c_BadDeeds, false) :: (c_BadEnding, false) :: (c_BadExpression, false) :: (c_BadForm, false) :: (c_BadGoal, true) :: (c_BadHeads, false) :: (c_BadInputs, false) :: (c_BadKind, false) :: (c_BadKinds, false) :: (c_BadKnot, false) :: (c_BadLine, false) :: (c_BadLot, false) :: (c_BadMany, false) :: (c_BadMost, false) :: (c_BadName, false) :: (c_BadNames, false) :: (c_BadNotation, false) :: (c_BadParts, false) :: (c_BadPath, false) :: (c_BadPaths, false) :: (c_BadPlace, false) :: (c_BadPlain, false) :: (c_BadRow, false) :: (c_BadScheme, false) :: (c_BadSheet, false) :: (c_BadSheets, false) :: (c_BadSignature, false) :: (c_BadText, false) :: (c_BadTree, false) :: (c_BadUse, false) :: (c_BadWish, false) :: (c_BadWorth, false) :: (c_BadWriting, false) :: (c_NoPlain, false) :: (c_NoRows, false) :: (c_NoRule, false) :: (c_NotAlike, false) :: (c_NotClear, false) :: (c_NotSame, false) :: (c_NotWritten, false) :: (c_NothingDone, false) :: (c_NothingUndone, false) :: (c_OtherPlaces, false) :: (c_TooMany, false) :: [])) :: (c_BadHeads, ((c_FormError, true) :: (c_BadAnswers, false) :: (c_BadBook, false) :: (c_BadCells, false) :: (c_BadCount, false) :: (c_BadDeeds, false) :: (c_BadEnding, false) :: (c_BadExpression, false) :: (c_BadForm, false) :: (c_BadGoal, false) :: (c_BadHeads, true) :: (c_BadInputs, false) :: (c_BadKind, false) :: (c_BadKinds, false) :: (c_BadKnot, false) :: (c_BadLine, false) :: (c_BadLot, false) :: (c_BadMany, false) :: (c_BadMost, false) :: (c_BadName, false) :: (c_BadNames, false) :: (c_BadNotation, false) :: (c_BadParts, false) :: (c_BadPath, false) :: (c_BadPaths, false) :: (c_BadPlace, false) :: (c_BadPlain, false) :: (c_BadRow, false) :: (c_BadScheme, false) :: (c_BadSheet, false) :: (c_BadSheets, false) :: (c_BadSignature, false) :: (c_BadText, false) :: (c_BadTree, false) :: (c_BadUse, false) :: (c_BadWish, false) :: (c_BadWorth, false) :: (c_BadWriting, false) :: (c_NoPlain, false) :: (c_NoRows, false) :: (c_NoRule, false) :: (c_NotAlike, false) :: (c_NotClear, false) :: (c_NotSame, false) :: (c_NotWritten, false) :: (c_NothingDone, false) :: (c_NothingUndone, false) :: (c_OtherPlaces, false) :: (c_TooMany, false) :: [])) :: (c_BadInputs, ((c_FormError, true) :: (c_BadAnswers, false) :: (c_BadBook, false) :: (c_BadCells, false) :: (c_BadCount, false) :: (c_BadDeeds, false) :: (c_BadEnding, false) :: (c_BadExpression, false) :: (c_BadForm, false) :: (c_BadGoal, false) :: (c_BadHeads, false) :: (c_BadInputs, true) :: (c_BadKind, false) :: (c_BadKinds, false) :: (c_BadKnot, false) :: (c_BadLine, false) :: (c_BadLot, false) :: (c_BadMany, false) :: (c_BadMost, false) :: (c_BadName, false) :: (c_BadNames, false) :: (c_BadNotation, false) :: (c_BadParts, false) :: (c_BadPath, false) :: (c_BadPaths, false) :: (c_BadPlace, false) :: (c_BadPlain, false) :: (c_BadRow, false) :: (c_BadScheme, false) :: (c_BadSheet, false) :: (c_BadSheets, false) :: (c_BadSignature, false) :: (c_BadText, false) :: (c_BadTree, false) :: (c_BadUse, false) :: (c_BadWish, false) :: (c_BadWorth, false) :: (c_BadWriting, false) :: (c_NoPlain, false) :: (c_NoRows, false) :: (c_NoRule, false) :: (c_NotAlike, false) :: (c_NotClear, false) :: (c_NotSame, false) :: (c_NotWritten, false) :: (c_NothingDone, false) :: (c_NothingUndone, false) :: (c_OtherPlaces, false) :: (c_TooMany, false) :: [])) :: (c_BadKind, ((c_FormError, true) :: (c_BadAnswers, false) :: (c_BadBook, false) :: (c_BadCells, false) :: (c_BadCount, false) :: (c_BadDeeds, false) :: (c_BadEnding, false) :: (c_BadExpression, false) :: (c_BadForm, false) :: (c_BadGoal, false) :: (c_BadHeads, false) :: (c_BadInputs, false) :: (c_BadKind, true) :: (c_BadKinds, false) :: (c_BadKnot, false) :: (c_BadLine, false) :: (c_BadLot, false) :: (c_BadMany, false) :: (c_BadMost, false) :: (c_BadName, false) :: (c_BadNames, false) :: (c_BadNotation, false) :: (c_BadParts, false) :: (c_BadPath, false) :: (c_BadPaths, false) :: (c_BadPlace, false) :: (c_BadPlain, false) :: (c_BadRow, false) :: (c_BadScheme, false) :: (c_BadSheet, false) :: (c_BadSheets, false) :: (c_BadSignature, false) :: (c_BadText, false) :: (c_BadTree, false) :: (c_BadUse, false) :: (c_BadWish, false) :: (c_BadWorth, false) :: (c_BadWriting, false) :: (c_NoPlain, false) :: (c_NoRows, false) :: (c_NoRule, false) :: (c_NotAlike, false) :: (c_NotClear, false) :: (c_NotSame, false) :: (c_NotWritten, false) :: (c_NothingDone, false) :: (c_NothingUndone, false) :: (c_OtherPlaces, false) :: (c_TooMany, false) :: [])) :: (c_BadKinds, ((c_FormError, true) :: (c_BadAnswers, false) :: (c_BadBook, false) :: (c_BadCells, false) :: (c_BadCount, false) :: (c_BadDeeds, false) :: (c_BadEnding, false) :: (c_BadExpression, false) :: (c_BadForm, false) :: (c_BadGoal, false) :: (c_BadHeads, false) :: (c_BadInputs, false) :: (c_BadKind, false) :: (c_BadKinds, true) :: (c_BadKnot, false) :: (c_BadLine, false) :: (c_BadLot, false) :: (c_BadMany, false) :: (c_BadMost, false) :: (c_BadName, false) :: (c_BadNames, false) :: (c_BadNotation, false) :: (c_BadParts, false) :: (c_BadPath, false) :: (c_BadPaths, false) :: (c_BadPlace, false) :: (c_BadPlain, false) :: (c_BadRow, false) :: (c_BadScheme, false) :: (c_BadSheet, false) :: (c_BadSheets, false) :: (c_BadSignature, false) :: (c_BadText, false) :: (c_BadTree, false) :: (c_BadUse, false) :: (c_BadWish, false) :: (c_BadWorth, false) :: (c_BadWriting, false) :: (c_NoPlain, false) :: (c_NoRows, false) :: (c_NoRule, false) :: (c_NotAlike, false) :: (c_NotClear, false) :: (c_NotSame, false) :: (c_NotWritten, false) :: (c_NothingDone, false) :: (c_NothingUndone, false) :: (c_OtherPlaces, false) :: (c_TooMany, false) :: [])) :: (c_BadKnot, ((c_FormError, true) :: (c_BadAnswers, false) :: (c_BadBook, false) :: (c_BadCells, false) :: (c_BadCount, false) :: (c_BadDeeds, false) :: (c_BadEnding, false) :: (c_BadExpression, false) :: (c_BadForm, false) :: (c_BadGoal, false) :: (c_BadHeads, false) :: (c_BadInputs, false) :: (c_BadKind, false) :: (c_BadKinds, false) :: (c_BadKnot, true) :: (c_BadLine, false) :: (c_BadLot, false) :: (c_BadMany, false) :: (c_BadMost, false) :: (c_BadName, false) :: (c_BadNames, false) :: (c_BadNotation, false) :: (c_BadParts, false) :: (c_BadPath, false) :: (c_BadPaths, false) :: (c_BadPlace, false) :: (c_BadPlain, false) :: (c_BadRow, false) :: (c_BadScheme, false) :: (c_BadSheet, false) :: (c_BadSheets, false) :: (c_BadSignature, false) :: (c_BadText, false) :: (c_BadTree, false) :: (c_BadUse, false) :: (c_BadWish, false) :: (c_BadWorth, false) :: (c_BadWriting, false) :: (c_NoPlain, false) :: (c_NoRows, false) :: (c_NoRule, false) :: (c_NotAlike, false) :: (c_NotClear, false) :: (c_NotSame, false) :: (c_NotWritten, false) :: (c_NothingDone, false) :: (c_NothingUndone, false) :: (c_OtherPlaces, false) :: (c_TooMany, false) :: [])) :: (c_BadLine, ((c_FormError, true) :: (c_BadAnswers, false) :: (c_BadBook, false) :: (c_BadCells, false) :: (c_BadCount, false) :: (c_BadDeeds, false) :: (c_BadEnding, false) :: (c_BadExpression, false) :: (c_BadForm, false) :: (c_BadGoal, false) :: (c_BadHeads, false) :: (c_BadInputs, false) :: (c_BadKind, false) :: (c_BadKinds, false) :: (c_BadKnot, false) :: (c_BadLine, true) :: (c_BadLot, false) :: (c_BadMany, false) :: (c_BadMost, false) :: (c_BadName, false) :: (c_BadNames, false) :: (c_BadNotation, false) :: (c_BadParts, false) :: (c_BadPath, false) :: (c_BadPaths, false) :: (c_BadPlace, false) :: (c_BadPlain, false) :: (c_BadRow, false) :: (c_BadScheme, false) :: (c_BadSheet, false) :: (c_BadSheets, false) :: (c_BadSignature, false) :: (c_BadText, false) :: (c_BadTree, false) :: (c_BadUse, false) :: (c_BadWish, false) :: (c_BadWorth, false) :: (c_BadWriting, false) :: (c_NoPlain, false) :: (c_NoRows, false) :: (c_NoRule, false) :: (c_NotAlike, false) :: (c_NotClear, false) :: (c_NotSame, false) :: (c_NotWritten, false) :: (c_NothingDone, false) :: (c_NothingUndone, false) :: (c_OtherPlaces, false) :: (c_TooMany, false) :: [])) :: (c_BadLot, ((c_FormError, true) :: (c_BadAnswers, false) :: (c_BadBook, false) :: (c_BadCells, false) :: (c_BadCount, false) :: (c_BadDeeds, false) :: (c_BadEnding, false) :: (c_BadExpression, false) :: (c_BadForm, false) :: (c_BadGoal, false) :: (c_BadHeads, false) :: (c_BadInputs, false) :: (c_BadKind, false) :: (c_BadKinds, false) :: (c_BadKnot, false) :: (c_BadLine, false) :: (c_BadLot, true) :: (c_BadMany, false) :: (c_BadMost, false) :: (c_BadName, false) :: (c_BadNames, false) :: (c_BadNotation, false) :: (c_BadParts, false) :: (c_BadPath, false) :: (c_BadPaths, false) :: (c_BadPlace, false) :: (c_BadPlain, false) :: (c_BadRow, false) :: (c_BadScheme, false) :: (c_BadSheet, false) :: (c_BadSheets, false) :: (c_BadSignature, false) :: (c_BadText, false) :: (c_BadTree, false) :: (c_BadUse, false) :: (c_BadWish, false) :: (c_BadWorth, false) :: (c_BadWriting, false) :: (c_NoPlain, false) :: (c_NoRows, false) :: (c_NoRule, false) :: (c_NotAlike, false) :: (c_NotClear, false) :: (c_NotSame, false) :: (c_NotWritten, false) :: (c_NothingDone, false) :: (c_NothingUndone, false) :: (c_OtherPlaces, false) :: (c_TooMany, false) :: [])) :: (c_BadMany, ((c_FormError, true) :: (c_BadAnswers, false) :: (c_BadBook, false) :: (c_BadCells, false) :: (c_BadCount, false) :: (c_BadDeeds, false) :: (c_BadEnding, false) :: (c_BadExpression, false) :: (c_BadForm, false) :: (c_BadGoal, false) :: (c_BadHeads, false) :: (c_BadInputs, false) :: (c_BadKind, false) :: (c_BadKinds, false) :: (c_BadKnot, false) :: (c_BadLine, false) :: (c_BadLot, false) :: (c_BadMany, true) :: (c_BadMost, false) :: (c_BadName, false) :: (c_BadNames, false) :: (c_BadNotation, false) :: (c_BadParts, false) :: (c_BadPath, false) :: (c_BadPaths, false) :: (c_BadPlace, false) :: (c_BadPlain, false) :: (c_BadRow, false) :: (c_BadScheme, false) :: (c_BadSheet, false) :: (c_BadSheets, false) :: (c_BadSignature, false) :: (c_BadText, false) :: (c_BadTree, false) :: (c_BadUse, false) :: (c_BadWish, false) :: (c_BadWorth, false) :: (c_BadWriting, false) :: (c_NoPlain, false) :: (c_NoRows, false) :: (c_NoRule, false) :: (c_NotAlike, false) :: (c_NotClear, false) :: (c_NotSame, false) :: (c_NotWritten, false) :: (c_NothingDone, false) :: (c_NothingUndone, false) :: (c_OtherPlaces, false) :: (c_TooMany, false) :: [])) :: (c_BadMost, ((c_FormError, true) :: (c_BadAnswers, false) :: (c_BadBook, false) :: (c_BadCells, false) :: (c_BadCount, false) :: (c_BadDeeds, false) :: (c_BadEnding, false) :: (c_BadExpression, false) :: (c_BadForm, false) :: (c_BadGoal, false) :: (c_BadHeads, false) :: (c_BadInputs, false) :: (c_BadKind, false) :: (c_BadKinds, false) :: (c_BadKnot, false) :: (c_BadLine, false) :: (c_BadLot, false) :: (c_BadMany, false) :: (c_BadMost, true) :: (c_BadName, false) :: (c_BadNames, false) :: (c_BadNotation, false) :: (c_BadParts, false) :: (c_BadPath, false) :: (c_BadPaths, false) :: (c_BadPlace, false) :: (c_BadPlain, false) :: (c_BadRow, false) :: (c_BadScheme, false) :: (c_BadSheet, false) :: (c_BadSheets, false) :: (c_BadSignature, false) :: (c_BadText, false) :: (c_BadTree, false) :: (c_BadUse, false) :: (c_BadWish, false) :: (c_BadWorth, false) :: (c_BadWriting, false) :: (c_NoPlain, false) :: (c_NoRows, false) :: (c_NoRule, false) :: (c_NotAlike, false) :: (c_NotClear, false) :: (c_NotSame, false) :: (c_NotWritten, false) :: (c_NothingDone, false) :: (c_NothingUndone, false) :: (c_OtherPlaces, false) :: (c_TooMany, false) :: [])) :: (c_BadName, ((c_FormError, true) :: (c_BadAnswers, false) :: (c_BadBook, false) :: (c_BadCells, false) :: (c_BadCount, false) :: (c_BadDeeds, false) :: (c_BadEnding, false) :: (c_BadExpression, false) :: (c_BadForm, false) :: (c_BadGoal, false) :: (c_BadHeads, false) :: (c_BadInputs, false) :: (c_BadKind, false) :: (c_BadKinds, false) :: (c_BadKnot, false) :: (c_BadLine, false) :: (c_BadLot, false) :: (c_BadMany, false) :: (c_BadMost, false) :: (c_BadName, true) :: (c_BadNames, false) :: (c_BadNotation, false) :: (c_BadParts, false) :: (c_BadPath, false) :: (c_BadPaths, false) :: (c_BadPlace, false) :: (c_BadPlain, false) :: (c_BadRow, false) :: (c_BadScheme, false) :: (c_BadSheet, false) :: (c_BadSheets, false) :: (c_BadSignature, false) :: (c_BadText, false) :: (c_BadTree, false) :: (c_BadUse, false) :: (c_BadWish, false) :: (c_BadWorth, false) :: (c_BadWriting, false) :: (c_NoPlain, false) :: (c_NoRows, false) :: (c_NoRule, false) :: (c_NotAlike, false) :: (c_NotClear, false) :: (c_NotSame, false) :: (c_NotWritten, false) :: (c_NothingDone, false) :: (c_NothingUndone, false) :: (c_OtherPlaces, false) :: (c_TooMany, false) :: [])) :: (c_BadNames, ((c_FormError, true) :: (c_BadAnswers, false) :: (c_BadBook, false) :: (c_BadCells, false) :: (c_BadCount, false) :: (c_BadDeeds, false) :: (c_BadEnding, false) :: (c_BadExpression, false) :: (c_BadForm, false) :: (c_BadGoal, false) :: (c_BadHeads, false) :: (c_BadInputs, false) :: (c_BadKind, false) :: (c_BadKinds, false) :: (c_BadKnot, false) :: (c_BadLine, false) :: (c_BadLot, false) :: (c_BadMany, false) :: (c_BadMost, false) :: (c_BadName, false) :: (c_BadNames, true) :: (c_BadNotation, false) :: (c_BadParts, false) :: (c_BadPath, false) :: (c_BadPaths, false) :: (c_BadPlace, false) :: (c_BadPlain, false) :: (c_BadRow, false) :: (c_BadScheme, false) :: (c_BadSheet, false) :: (c_BadSheets, false) :: (c_BadSignature, false) :: (c_BadText, false) :: (c_BadTree, false) :: (c_BadUse, false) :: (c_BadWish, false) :: (c_BadWorth, false) :: (c_BadWriting, false) :: (c_NoPlain, false) :: (c_NoRows, false) :: (c_NoRule, false) :: (c_NotAlike, false) :: (c_NotClear, false) :: (c_NotSame, false) :: (c_NotWritten, false) :: (c_NothingDone, false) :: (c_NothingUndone, false) :: (c_OtherPlaces, false) :: (c_TooMany, false) :: [])) :: (c_BadNotation, ((c_FormError, true) :: (c_BadAnswers, false) :: (c_BadBook, false) :: (c_BadCells, false) :: (c_BadCount, false) :: (c_BadDeeds, false) :: (c_BadEnding, false) :: (c_BadExpression, false) :: (c_BadForm, false) :: (c_BadGoal, false) :: (c_BadHeads, false) :: (c_BadInputs, false) :: (c_BadKind, false) :: (c_BadKinds, false) :: (c_BadKnot, false) :: (c_BadLine, false) :: (c_BadLot, false) :: (c_BadMany, false) :: (c_BadMost, false) :: (c_BadName, false) :: (c_BadNames, false) :: (c_BadNotation, true) :: (c_BadParts, false) :: (c_BadPath, false) :: (c_BadPaths, false) :: (c_BadPlace, false) :: (c_BadPlain, false) :: (c_BadRow, false) :: (c_BadScheme, false) :: (c_BadSheet, false) :: (c_BadSheets, false) :: (c_BadSignature, false) :: (c_BadText, false) :: (c_BadTree, false) :: (c_BadUse, false) :: (c_BadWish, false) :: (c_BadWorth, false) :: (c_BadWriting, false) :: (c_NoPlain, false) :: (c_NoRows, false) :: (c_NoRule, false) :: (c_NotAlike, false) :: (c_NotClear, false) :: (c_NotSame, false) :: (c_NotWritten, false) :: (c_NothingDone, false) :: (c_NothingUndone, false) :: (c_OtherPlaces, false) :: (c_TooMany, false) :: [])) :: (c_BadParts, ((c_FormError, true) :: (c_BadAnswers, false) :: (c_BadBook, false) :: (c_BadCells, false) :: (c_BadCount, false) :: (c_BadDeeds, false) :: (c_BadEnding, false) :: (c_BadExpression, false) :: (c_BadForm, false) :: (c_BadGoal, false) :: (c_BadHeads, false) :: (c_BadInputs, false) :: (c_BadKind, false) :: (c_BadKinds, false) :: (c_BadKnot, false) :: (c_BadLine, false) :: (c_BadLot, false) :: (c_BadMany, false) :: (c_BadMost, false) :: (c_BadName, false) :: (c_BadNames, false) :: (c_BadNotation, false) :: (c_BadParts, true) :: (c_BadPath, false) :: (c_BadPaths, false) :: (c_BadPlace, false) :: (c_BadPlain, false) :: (c_BadRow, false) :: (c_BadScheme, false) :: (c_BadSheet, false) :: (c_BadSheets, false) :: (c_BadSignature, false) :: (c_BadText, false) :: (c_BadTree, false) :: (c_BadUse, false) :: (c_BadWish, false) :: (c_BadWorth, false) :: (c_BadWriting, false) :: (c_NoPlain, false) :: (c_NoRows, false) :: (c_NoRule, false) :: (c_NotAlike, false) :: (c_NotClear, false) :: (c_NotSame, false) :: (c_NotWritten, false) :: (c_NothingDone, false) :: (c_NothingUndone, false) :: (c_OtherPlaces, false) :: (c_TooMany, false) :: [])) :: (c_BadPath, ((c_FormError, true) :: (c_BadAnswers, false) :: (c_BadBook, false) :: (c_BadCells, false) :: (c_BadCount, false) :: (c_BadDeeds, false) :: (c_BadEnding, false) :: (c_BadExpression, false) :: (c_BadForm, false) :: (c_BadGoal, false) :: (c_BadHeads, false) :: (c_BadInputs, false) :: (c_BadKind, false) :: (c_BadKinds, false) :: (c_BadKnot, false) :: (c_BadLine, false) :: (c_BadLot, false) :: (c_BadMany, false) :: (c_BadMost, false) :: (c_BadName, false) :: (c_BadNames, false) :: (c_BadNotation, false) :: (c_BadParts, false) :: (c_BadPath, true) :: (c_BadPaths, false) :: (c_BadPlace, false) :: (c_BadPlain, false) :: (c_BadRow, false) :: (c_BadScheme, false) :: (c_BadSheet, false) :: (c_BadSheets, false) :: (c_BadSignature, false) :: (c_BadText, false) :: (c_BadTree, false) :: (c_BadUse, false) :: (c_BadWish, false) :: (c_BadWorth, false) :: (c_BadWriting, false) :: (c_NoPlain, false) :: (c_NoRows, false) :: (c_NoRule, false) :: (c_NotAlike, false) :: (c_NotClear, false) :: (c_NotSame, false) :: (c_NotWritten, false) :: (c_NothingDone, false) :: (c_NothingUndone, false) :: (c_OtherPlaces, false) :: (c_TooMany, false) :: [])) :: (c_BadPaths, ((c_FormError, true) :: (c_BadAnswers, false) :: (c_BadBook, false) :: (c_BadCells, false) :: (c_BadCount, false) :: (c_BadDeeds, false) :: (c_BadEnding, false) :: (c_BadExpression, false) :: (c_BadForm, false) :: (c_BadGoal, false) :: (c_BadHeads, false) :: (c_BadInputs, false) :: (c_BadKind, false) :: (c_BadKinds, false) :: (c_BadKnot, false) :: (c_BadLine, false) :: (c_BadLot, false) :: (c_BadMany, false) :: (c_BadMost, false) :: (c_BadName, false) :: (c_BadNames, false) :: (c_BadNotation, false) :: (c_BadParts, false) :: (c_BadPath, false) :: (c_BadPaths, true) :: (c_BadPlace, false) :: (c_BadPlain, false) :: (c_BadRow, false) :: (c_BadScheme, false) :: (c_BadSheet, false) :: (c_BadSheets, false) :: (c_BadSignature, false) :: (c_BadText, false) :: (c_BadTree, false) :: (c_BadUse, false) :: (c_BadWish, false) :: (c_BadWorth, false) :: (c_BadWriting, false) :: (c_NoPlain, false) :: (c_NoRows, false) :: (c_NoRule, false) :: (c_NotAlike, false) :: (c_NotClear, false) :: (c_NotSame, false) :: (c_NotWritten, false) :: (c_NothingDone, false) :: (c_NothingUndone, false) :: (c_OtherPlaces, false) :: (c_TooMany, false) :: [])) :: (c_BadPlace, ((c_FormError, true) :: (c_BadAnswers, false) :: (c_BadBook, false) :: (c_BadCells, false) :: (c_BadCount, false) :: (c_BadDeeds, false) :: (c_BadEnding, false) :: (c_BadExpression, false) :: (c_BadForm, false) :: (c_BadGoal, false) :: (c_BadHeads, false) :: (c_BadInputs, false) :: (c_BadKind, false) :: (c_BadKinds, false) :: (c_BadKnot, false) :: (c_BadLine, false) :: (c_BadLot, false) :: (c_BadMany, false) :: (c_BadMost, false) :: (c_BadName, false) :: (c_BadNames, false) :: (c_BadNotation, false) :: (c_BadParts, false) :: (c_BadPath, false) :: (c_BadPaths, false) :: (c_BadPlace, true) :: (c_BadPlain, false) :: (c_BadRow, false) :: (c_BadScheme, false) :: (c_BadSheet, false) :: (c_BadSheets, false) :: (c_BadSignature, false) :: (c_BadText, false) :: (c_BadTree, false) :: (c_BadUse, false) :: (c_BadWish, false) :: (c_BadWorth, false) :: (c_BadWriting, false) :: (c_NoPlain, false) :: (c_NoRows, false) :: (c_NoRule, false) :: (c_NotAlike, false) :: (c_NotClear, false) :: (c_NotSame, false) :: (c_NotWritten, false) :: (c_NothingDone, false) :: (c_NothingUndone, false) :: (c_OtherPlaces, false) :: (c_TooMany, false) :: [])) :: (c_BadPlain, ((c_FormError, true) :: (c_BadAnswers, false) :: (c_BadBook, false) :: (c_BadCells, false) :: (c_BadCount, false) :: (c_BadDeeds, false) :: (c_BadEnding, false) :: (c_BadExpression, false) :: (c_BadForm, false) :: (c_BadGoal, false) :: (c_BadHeads, false) :: (c_BadInputs, false) :: (c_BadKind, false) :: (c_BadKinds, false) :: (c_BadKnot, false) :: (c_BadLine, false) :: (c_BadLot, false) :: (c_BadMany, false) :: (c_BadMost, false) :: (c_BadName, false) :: (c_BadNames, false) :: (c_BadNotation, false) :: (c_BadParts, false) :: (c_BadPath, false) :: (c_BadPaths, false) :: (c_BadPlace, false) :: (c_BadPlain, true) :: (c_BadRow, false) :: (c_BadScheme, false) :: (c_BadSheet, false) :: (c_BadSheets, false) :: (c_BadSignature, false) :: (c_BadText, false) :: (c_BadTree, false) :: (c_BadUse, false) :: (c_BadWish, false) :: (c_BadWorth, false) :: (c_BadWriting, false) :: (c_NoPlain, false) :: (c_NoRows, false) :: (c_NoRule, false) :: (c_NotAlike, false) :: (c_NotClear, false) :: (c_NotSame, false) :: (c_NotWritten, false) :: (c_NothingDone, false) :: (c_NothingUndone, false) :: (c_OtherPlaces, false) :: (c_TooMany, false) :: [])) :: (c_BadRow, ((c_FormError, true) :: (c_BadAnswers, false) :: (c_BadBook, false) :: (c_BadCells, false) :: (c_BadCount, false) :: (c_BadDeeds, false) :: (c_BadEnding, false) :: (c_BadExpression, false) :: (c_BadForm, false) :: (c_BadGoal, false) :: (c_BadHeads, false) :: (c_BadInputs, false) :: (c_BadKind, false) :: (c_BadKinds, false) :: (c_BadKnot, false) :: (c_BadLine, false) :: (c_BadLot, false) :: (c_BadMany, false) :: (c_BadMost, false) :: (c_BadName, false) :: (c_BadNames, false) :: (c_BadNotation, false) :: (c_BadParts, false) :: (c_BadPath, false) :: (c_BadPaths, false) :: (c_BadPlace, false) :: (c_BadPlain, false) :: (c_BadRow, true) :: (c_BadScheme, false) :: (c_BadSheet, false) :: (c_BadSheets, false) :: (c_BadSignature, false) :: (c_BadText, false) :: (c_BadTree, false) :: (c_BadUse, false) :: (c_BadWish, false) :: (c_BadWorth, false) :: (c_BadWriting, false) :: (c_NoPlain, false) :: (c_NoRows, false) :: (c_NoRule, false) :: (c_NotAlike, false) :: (c_NotClear, false) :: (c_NotSame, false) :: (c_NotWritten, false) :: (c_NothingDone, false) :: (c_NothingUndone, false) :: (c_OtherPlaces, false) :: (c_TooMany, false) :: [])) :: (c_BadScheme, ((c_FormError, true) :: (c_BadAnswers, false) :: (c_BadBook, false) :: (c_BadCells, false) :: (c_BadCount, false) :: (c_BadDeeds, false) :: (c_BadEnding, false) :: (c_BadExpression, false) :: (c_BadForm, false) :: (c_BadGoal, false) :: (c_BadHeads, false) :: (c_BadInputs, false) :: (c_BadKind, false) :: (c_BadKinds, false) :: (c_BadKnot, false) :: (c_BadLine, false) :: (c_BadLot, false) :: (c_BadMany, false) :: (c_BadMost, false) :: (c_BadName, false) :: (c_BadNames, false) :: (c_BadNotation, false) :: (c_BadParts, false) :: (c_BadPath, false) :: (c_BadPaths, false) :: (c_BadPlace, false) :: (c_BadPlain, false) :: (c_BadRow, false) :: (c_BadScheme, true) :: (c_BadSheet, false) :: (c_BadSheets, false) :: (c_BadSignature, false) :: (c_BadText, false) :: (c_BadTree, false) :: (c_BadUse, false) :: (c_BadWish, false) :: (c_BadWorth, false) :: (c_BadWriting, false) :: (c_NoPlain, false) :: (c_NoRows, false) :: (c_NoRule, false) :: (c_NotAlike, false) :: (c_NotClear, false) :: (c_NotSame, false) :: (c_NotWritten, false) :: (c_NothingDone, false) :: (c_NothingUndone, false) :: (c_OtherPlaces, false) :: (c_TooMany, false) :: [])) :: (c_BadSheet, ((c_FormError, true) :: (c_BadAnswers, false) :: (c_BadBook, false) :: (c_BadCells, false) :: (c_BadCount, false) :: (c_BadDeeds, false) :: (c_BadEnding, false) :: (c_BadExpression, false) :: (c_BadForm, false) :: (c_BadGoal, false) :: (c_BadHeads, false) :: (c_BadInputs, false) :: (c_BadKind, false) :: (c_BadKinds, false) :: (c_BadKnot, false) :: (c_BadLine, false) :: (c_BadLot, false) :: (c_BadMany, false) :: (c_BadMost, false) :: (c_BadName, false) :: (c_BadNames, false) :: (c_BadNotation, false) :: (c_BadParts, false) :: (c_BadPath, false) :: (c_BadPaths, false) :: (c_BadPlace, false) :: (c_BadPlain, false) :: (c_BadRow, false) :: (c_BadScheme, false) :: (c_BadSheet, true) :: (c_BadSheets, false) :: (c_BadSignature, false) :: (c_BadText, false) :: (c_BadTree, false) :: (c_BadUse, false) :: (c_BadWish, false) :: (c_BadWorth, false) :: (c_BadWriting, false) :: (c_NoPlain, false) :: (c_NoRows, false) :: (c_NoRule, false) :: (c_NotAlike, false) :: (c_NotClear, false) :: (c_NotSame, false) :: (c_NotWritten, false) :: (c_NothingDone, false) :: (c_NothingUndone, false) :: (c_OtherPlaces, false) :: (c_TooMany, false) :: [])) :: (c_BadSheets, ((c_FormError, true) :: (c_BadAnswers, false) :: (c_BadBook, false) :: (c_BadCells, false) :: (c_BadCount, false) :: (c_BadDeeds, false) :: (c_BadEnding, false) :: (c_BadExpression, false) :: (c_BadForm, false) :: (c_BadGoal, false) :: (c_BadHeads, false) :: (c_BadInputs, false) :: (c_BadKind, false) :: (c_BadKinds, false) :: (c_BadKnot, false) :: (c_BadLine, false) :: (c_BadLot, false) :: (c_BadMany, false) :: (c_BadMost, false) :: (c_BadName, false) :: (c_BadNames, false) :: (c_BadNotation, false) :: (c_BadParts, false) :: (c_BadPath, false) :: (c_BadPaths, false) :: (c_BadPlace, false) :: (c_BadPlain, false) :: (c_BadRow, false) :: (c_BadScheme, false) :: (c_BadSheet, false) :: (c_BadSheets, true) :: (c_BadSignature, false) :: (c_BadText, false) :: (c_BadTree, false) :: (c_BadUse, false) :: (c_BadWish, false) :: (c_BadWorth, false) :: (c_BadWriting, false) :: (c_NoPlain, false) :: (c_NoRows, false) :: (c_NoRule, false) :: (c_NotAlike, false) :: (c_NotClear, false) :: (c_NotSame, false) :: (c_NotWritten, false) :: (c_NothingDone, false) :: (c_NothingUndone, false) :: (c_OtherPlaces, false) :: (c_TooMany, false) :: [])) :: (c_BadSignature, ((c_FormError, true) :: (c_BadAnswers, false) :: (c_BadBook, false) :: (c_BadCells, false) :: (c_BadCount, false) :: (c_BadDeeds, false) :: (c_BadEnding, false) :: (c_BadExpression, false) :: (c_BadForm, false) :: (c_BadGoal, false) :: (c_BadHeads, false) :: (c_BadInputs, false) :: (c_BadKind, false) :: (c_BadKinds, false) :: (c_BadKnot, false) :: (c_BadLine, false) :: (c_BadLot, false) :: (c_BadMany, false) :: (c_BadMost, false) :: (c_BadName, false) :: (c_BadNames, false) :: (c_BadNotation, false) :: (c_BadParts, false) :: (c_BadPath, false) :: (c_BadPaths, false) :: (c_BadPlace, false) :: (c_BadPlain, false) :: (c_BadRow, false) :: (c_BadScheme, false) :: (c_BadSheet, false) :: (c_BadSheets, false) :: (c_BadSignature, true) :: (c_BadText, false) :: (c_BadTree, false) :: (c_BadUse, false) :: (c_BadWish, false) :: (c_BadWorth, false) :: (c_BadWriting, false) :: (c_NoPlain, false) :: (c_NoRows, false) :: (c_NoRule, false) :: (c_NotAlike, false) :: (c_NotClear, false) :: (c_NotSame, false) :: (c_NotWritten, false) :: (c_NothingDone, false) :: (c_NothingUndone, false) :: (c_OtherPlaces, false) :: (c_TooMany, false) :: [])) :: (c_BadText, ((c_FormError, true) :: (c_BadAnswers, false) :: (c_BadBook, false) :: (c_BadCells, false) :: (c_BadCount, false) :: (c_BadDeeds, false) :: (c_BadEnding, false) :: (c_BadExpression, false) :: (c_BadForm, false) :: (c_BadGoal, false) :: (c_BadHeads, false) :: (c_BadInputs, false) :: (c_BadKind, false) :: (c_BadKinds, false) :: (c_BadKnot, false) :: (c_BadLine, false) :: (c_BadLot, false) :: (c_BadMany, false) :: (c_BadMost, false) :: (c_BadName, false) :: (c_BadNames, false) :: (c_BadNotation, false) :: (c_BadParts, false) :: (c_BadPath, false) :: (c_BadPaths, false) :: (c_BadPlace, false) :: (c_BadPlain, false) :: (c_BadRow, false) :: (c_BadScheme, false) :: (c_BadSheet, false) :: (c_BadSheets, false) :: (c_BadSignature, false) :: (c_BadText, true) :: (c_BadTree, false) :: (c_BadUse, false) :: (c_BadWish, false) :: (c_BadWorth, false) :: (c_BadWriting, false) :: (c_NoPlain, false) :: (c_NoRows, false) :: (c_NoRule, false) :: (c_NotAlike, false) :: (c_NotClear, false) :: (c_NotSame, false) :: (c_NotWritten, false) :: (c_NothingDone, false) :: (c_NothingUndone, false) :: (c_OtherPlaces, false) :: (c_TooMany, false) :: [])) :: (c_BadTree, ((c_FormError, true) :: (c_BadAnswers, false) :: (c_BadBook, false) :: (c_BadCells, false) :: (c_BadCount, false) :: (c_BadDeeds, false) :: (c_BadEnding, false) :: (c_BadExpression, false) :: (c_BadForm, false) :: (c_BadGoal, false) :: (c_BadHeads, false) :: (c_BadInputs, false) :: (c_BadKind, false) :: (c_BadKinds, false) :: (c_BadKnot, false) :: (c_BadLine, false) :: (c_BadLot, false) :: (c_BadMany, false) :: (c_BadMost, false) :: (c_BadName, false) :: (c_BadNames, false) :: (c_BadNotation, false) :: (c_BadParts, false) :: (c_BadPath, false) :: (c_BadPaths, false) :: (c_BadPlace, false) :: (c_BadPlain, false) :: (c_BadRow, false) :: (c_BadScheme, false) :: (c_BadSheet, false) :: (c_BadSheets, false) :: (c_BadSignature, false) :: (c_BadText, false) :: (c_BadTree, true) :: (c_BadUse, false) :: (c_BadWish, false) :: (c_BadWorth, false) :: (c_BadWriting, false) :: (c_NoPlain, false) :: (c_NoRows, false) :: (c_NoRule, false) :: (c_NotAlike, false) :: (c_NotClear, false) :: (c_NotSame, false) :: (c_NotWritten, false) :: (c_NothingDone, false) :: (c_NothingUndone, false) :: (c_OtherPlaces, false) :: (c_TooMany, false) :: [])) :: (c_BadUse, ((c_FormError, true) :: (c_BadAnswers, false) :: (c_BadBook, false) :: (c_BadCells, false) :: (c_BadCount, false) :: (c_BadDeeds, false) :: (c_BadEnding, false) :: (c_BadExpression, false) :: (c_BadForm, false) :: (c_BadGoal, false) :: (c_BadHeads, false) :: (c_BadInputs, false) :: (c_BadKind, false) :: (c_BadKinds, false) :: (c_BadKnot, false) :: (c_BadLine, false) :: (c_BadLot, false) :: (c_BadMany, false) :: (c_BadMost, false) :: (c_BadName, false) :: (c_BadNames, false) :: (c_BadNotation, false) :: (c_BadParts, false) :: (c_BadPath, false) :: (c_BadPaths, false) :: (c_BadPlace, false) :: (c_BadPlain, false) :: (c_BadRow, false) :: (c_BadScheme, false) :: (c_BadSheet, false) :: (c_BadSheets, false) :: (c_BadSignature, false) :: (c_BadText, false) :: (c_BadTree, false) :: (c_BadUse, true) :: (c_BadWish, false) :: (c_BadWorth, false) :: (c_BadWriting, false) :: (c_NoPlain, false) :: (c_NoRows, false) :: (c_NoRule, false) :: (c_NotAlike, false) :: (c_NotClear, false) :: (c_NotSame, false) :: (c_NotWritten, false) :: (c_NothingDone, false) :: (c_NothingUndone, false) :: (c_OtherPlaces, false) :: (c_TooMany, false) :: [])) :: (c_BadWish, ((c_FormError, true) :: (c_BadAnswers, false) :: (c_BadBook, false) :: (c_BadCells, false) :: (c_BadCount, false) :: (c_BadDeeds, false) :: (c_BadEnding, false) :: (c_BadExpression, false) :: (c_BadForm, false) :: (c_BadGoal, false) :: (c_BadHeads, false) :: (c_BadInputs, false) :: (c_BadKind, false) :: (c_BadKinds, false) :: (c_BadKnot, false) :: (c_BadLine, false) :: (c_BadLot, false) :: (c_BadMany, false) :: (c_BadMost, false) :: (c_BadName, false) :: (c_BadNames, false) :: (c_BadNotation, false) :: (c_BadParts, false) :: (c_BadPath, false) :: (c_BadPaths, false) :: (c_BadPlace, false) :: (c_BadPlain, false) :: (c_BadRow, false) :: (c_BadScheme, false) :: (c_BadSheet, false) :: (c_BadSheets, false) :: (c_BadSignature, false) :: (c_BadText, false) :: (c_BadTree, false) :: (c_BadUse, false) :: (c_BadWish, true) :: (c_BadWorth, false) :: (c_BadWriting, false) :: (c_NoPlain, false) :: (c_NoRows, false) :: (c_NoRule, false) :: (c_NotAlike, false) :: (c_NotClear, false) :: (c_NotSame, false) :: (c_NotWritten, false) :: (c_NothingDone, false) :: (c_NothingUndone, false) :: (c_OtherPlaces, false) :: (c_TooMany, false) :: [])) :: (c_BadWorth, ((c_FormError, true) :: (c_BadAnswers, false) :: (c_BadBook, false) :: (c_BadCells, false) :: (c_BadCount, false) :: (c_BadDeeds, false) :: (c_BadEnding, false) :: (c_BadExpression, false) :: (c_BadForm, false) :: (c_BadGoal, false) :: (c_BadHeads, false) :: (c_BadInputs, false) :: (c_BadKind, false) :: (c_BadKinds, false) :: (c_BadKnot, false) :: (c_BadLine, false) :: (c_BadLot, false) :: (c_BadMany, false) :: (c_BadMost, false) :: (c_BadName, false) :: (c_BadNames, false) :: (c_BadNotation, false) :: (c_BadParts, false) :: (c_BadPath, false) :: (c_BadPaths, false) :: (c_BadPlace, false) :: (c_BadPlain, false) :: (c_BadRow, false) :: (c_BadScheme, false) :: (c_BadSheet, false) :: (c_BadSheets, false) :: (c_BadSignature, false) :: (c_BadText, false) :: (c_BadTree, false) :: (c_BadUse, false) :: (c_BadWish, false) :: (c_BadWorth, true) :: (c_BadWriting, false) :: (c_NoPlain, false) :: (c_NoRows, false) :: (c_NoRule, false) :: (c_NotAlike, false) :: (c_NotClear, false) :: (c_NotSame, false) :: (c_NotWritten, false) :: (c_NothingDone, false) :: (c_NothingUndone, false) :: (c_OtherPlaces, false) :: (c_TooMany, false) :: [])) :: (c_BadWriting, ((c_FormError, true) :: (c_BadAnswers, false) :: (c_BadBook, false) :: (c_BadCells, false) :: (c_BadCount, false) :: (c_BadDeeds, false) :: (c_BadEnding, false) :: (c_BadExpression, false) :: (c_BadForm, false) :: (c_BadGoal, false) :: (c_BadHeads, false) :: (c_BadInputs, false) :: (c_BadKind, false) :: (c_BadKinds, false) :: (c_BadKnot, false) :: (c_BadLine, false) :: (c_BadLot, false) :: (c_BadMany, false) :: (c_BadMost, false) :: (c_BadName, false) :: (c_BadNames, false) :: (c_BadNotation, false) :: (c_BadParts, false) :: (c_BadPath, false) :: (c_BadPaths, false) :: (c_BadPlace, false) :: (c_BadPlain, false) :: (c_BadRow, false) :: (c_BadScheme, false) :: (c_BadSheet, false) :: (c_BadSheets, false) :: (c_BadSignature, false) :: (c_BadText, false) :: (c_BadTree, false) :: (c_BadUse, false) :: (c_BadWish, false) :: (c_BadWorth, false) :: (c_BadWriting, true) :: (c_NoPlain, false) :: (c_NoRows, false) :: (c_NoRule, false) :: (c_NotAlike, false) :: (c_NotClear, false) :: (c_NotSame, false) :: (c_NotWritten, false) :: (c_NothingDone, false) :: (c_NothingUndone, false) :: (c_OtherPlaces, false) :: (c_TooMany, false) :: [])) :: (c_NoPlain, ((c_FormError, true) :: (c_BadAnswers, false) :: (c_BadBook, false) :: (c_BadCells, false) :: (c_BadCount, false) :: (c_BadDeeds, false) :: (c_BadEnding, false) :: (c_BadExpression, false) :: (c_BadForm, false) :: (c_BadGoal, false) :: (c_BadHeads, false) :: (c_BadInputs, false) :: (c_BadKind, false) :: (c_BadKinds, false) :: (c_BadKnot, false) :: (c_BadLine, false) :: (c_BadLot, false) :: (c_BadMany, false) :: (c_BadMost, false) :: (c_BadName, false) :: (c_BadNames, false) :: (c_BadNotation, false) :: (c_BadParts, false) :: (c_BadPath, false) :: (c_BadPaths, false) :: (c_BadPlace, false) :: (c_BadPlain, false) :: (c_BadRow, false) :: (c_BadScheme, false) :: (c_BadSheet, false) :: (c_BadSheets, false) :: (c_BadSignature, false) :: (c_BadText, false) :: (c_BadTree, false) :: (c_BadUse, false) :: (c_BadWish, false) :: (c_BadWorth, false) :: (c_BadWriting, false) :: (c_NoPlain, true) :: (c_NoRows, false) :: (c_NoRule, false) :: (c_NotAlike, false) :: (c_NotClear, false) :: (c_NotSame, false) :: (c_NotWritten, false) :: (c_NothingDone, false) :: (c_NothingUndone, false) :: (c_OtherPlaces, false) :: (c_TooMany, false) :: [])) :: (c_NoRows, ((c_FormError, true) :: (c_BadAnswers, false) :: (c_BadBook, false) :: (c_BadCells, false) :: (c_BadCount, false) :: (c_BadDeeds, false) :: (c_BadEnding, false) :: (c_BadExpression, false) :: (c_BadForm, false) :: (c_BadGoal, false) :: (c_BadHeads, false) :: (c_BadInputs, false) :: (c_BadKind, false) :: (c_BadKinds, false) :: (c_BadKnot, false) :: (c_BadLine, false) :: (c_BadLot, false) :: (c_BadMany, false) :: (c_BadMost, false) :: (c_BadName, false) :: (c_BadNames, false) :: (c_BadNotation, false) :: (c_BadParts, false) :: (c_BadPath, false) :: (c_BadPaths, false) :: (c_BadPlace, false) :: (c_BadPlain, false) :: (c_BadRow, false) :: (c_BadScheme, false) :: (c_BadSheet, false) :: (c_BadSheets, false) :: (c_BadSignature, false) :: (c_BadText, false) :: (c_BadTree, false) :: (c_BadUse, false) :: (c_BadWish, false) :: (c_BadWorth, false) :: (c_BadWriting, false) :: (c_NoPlain, false) :: (c_NoRows, true) :: (c_NoRule, false) :: (c_NotAlike, false) :: (c_NotClear, false) :: (c_NotSame, false) :: (c_NotWritten, false) :: (c_NothingDone, false) :: (c_NothingUndone, false) :: (c_OtherPlaces, false) :: (c_TooMany, false) :: [])) :: (c_NoRule, ((c_FormError, true) :: (c_BadAnswers, false) :: (c_BadBook, false) :: (c_BadCells, false) :: (c_BadCount, false) :: (c_BadDeeds, false) :: (c_BadEnding, false) :: (c_BadExpression, false) :: (c_BadForm, false) :: (c_BadGoal, false) :: (c_BadHeads, false) :: (c_BadInputs, false) :: (c_BadKind, false) :: (c_BadKinds, false) :: (c_BadKnot, false) :: (c_BadLine, false) :: (c_BadLot, false) :: (c_BadMany, false) :: (c_BadMost, false) :: (c_BadName, false) :: (c_BadNames, false) :: (c_BadNotation, false) :: (c_BadParts, false) :: (c_BadPath, false) :: (c_BadPaths, false) :: (c_BadPlace, false) :: (c_BadPlain, false) :: (c_BadRow, false) :: (c_BadScheme, false) :: (c_BadSheet, false) :: (c_BadSheets, false) :: (c_BadSignature, false) :: (c_BadText, false) :: (c_BadTree, false) :: (c_BadUse, false) :: (c_BadWish, false) :: (c_BadWorth, false) :: (c_BadWriting, false) :: (c_NoPlain, false) :: (c_NoRows, false) :: (c_NoRule, true) :: (c_NotAlike, false) :: (c_NotClear, false) :: (c_NotSame, false) :: (c_NotWritten, false) :: (c_NothingDone, false) :: (c_NothingUndone, false) :: (c_OtherPlaces, false) :: (c_TooMany, false) :: [])) :: (c_NotAlike, ((c_FormError, true) :: (c_BadAnswers, false) :: (c_BadBook, false) :: (c_BadCells, false) :: (c_BadCount, false) :: (c_BadDeeds, false) :: (c_BadEnding, false) :: (c_BadExpression, false) :: (c_BadForm, false) :: (c_BadGoal, false) :: (c_BadHeads, false) :: (c_BadInputs, false) :: (c_BadKind, false) :: (c_BadKinds, false) :: (c_BadKnot, false) :: (c_BadLine, false) :: (c_BadLot, false) :: (c_BadMany, false) :: (c_BadMost, false) :: (c_BadName, false) :: (c_BadNames, false) :: (c_BadNotation, false) :: (c_BadParts, false) :: (c_BadPath, false) :: (c_BadPaths, false) :: (c_BadPlace, false) :: (c_BadPlain, false) :: (c_BadRow, false) :: (c_BadScheme, false) :: (c_BadSheet, false) :: (c_BadSheets, false) :: (c_BadSignature, false) :: (c_BadText, false) :: (c_BadTree, false) :: (c_BadUse, false) :: (c_BadWish, false) :: (c_BadWorth, false) :: (c_BadWriting, false) :: (c_NoPlain, false) :: (c_NoRows, false) :: (c_NoRule, false) :: (c_NotAlike, true) :: (c_NotClear, false) :: (c_NotSame, false) :: (c_NotWritten, false) :: (c_NothingDone, false) :: (c_NothingUndone, false) :: (c_OtherPlaces, false) :: (c_TooMany, false) :: [])) :: (c_NotClear, ((c_FormError, true) :: (c_BadAnswers, false) :: (c_BadBook, false) :: (c_BadCells, false) :: (c_BadCount, false) :: (c_BadDeeds, false) :: (c_BadEnding, false) :: (c_BadExpression, false) :: (c_BadForm, false) :: (c_BadGoal, false) :: (c_BadHeads, false) :: (c_BadInputs, false) :: (c_BadKind, false) :: (c_BadKinds, false) :: (c_BadKnot, false) :: (c_BadLine, false) :: (c_BadLot, false) :: (c_BadMany, false) :: (c_BadMost, false) :: (c_BadName, false) :: (c_BadNames, false) :: (c_BadNotation, false) :: (c_BadParts, false) :: (c_BadPath, false) :: (c_BadPaths, false) :: (c_BadPlace, false) :: (c_BadPlain, false) :: (c_BadRow, false) :: (c_BadScheme, false) :: (c_BadSheet, false) :: (c_BadSheets, false) :: (c_BadSignature, false) :: (c_BadText, false) :: (c_BadTree, false) :: (c_BadUse, false) :: (c_BadWish, false) :: (c_BadWorth, false) :: (c_BadWriting, false) :: (c_NoPlain, false) :: (c_NoRows, false) :: (c_NoRule, false) :: (c_NotAlike, false) :: (c_NotClear, true) :: (c_NotSame, false) :: (c_NotWritten, false) :: (c_NothingDone, false) :: (c_NothingUndone, false) :: (c_OtherPlaces, false) :: (c_TooMany, false) :: [])) :: (c_NotSame, ((c_FormError, true) :: (c_BadAnswers, false) :: (c_BadBook, false) :: (c_BadCells, false) :: (c_BadCount, false) :: (c_BadDeeds, false) :: (c_BadEnding, false) :: (c_BadExpression, false) :: (c_BadForm, false) :: (c_BadGoal, false) :: (c_BadHeads, false) :: (c_BadInputs, false) :: (c_BadKind, false) :: (c_BadKinds, false) :: (c_BadKnot, false) :: (c_BadLine, false) :: (c_BadLot, false) :: (c_BadMany, false) :: (c_BadMost, false) :: (c_BadName, false) :: (c_BadNames, false) :: (c_BadNotation, false) :: (c_BadParts, false) :: (c_BadPath, false) :: (c_BadPaths, false) :: (c_BadPlace, false) :: (c_BadPlain, false) :: (c_BadRow, false) :: (c_BadScheme, false) :: (c_BadSheet, false) :: (c_BadSheets, false) :: (c_BadSignature, false) :: (c_BadText, false) :: (c_BadTree, false) :: (c_BadUse, false) :: (c_BadWish, false) :: (c_BadWorth, false) :: (c_BadWriting, false) :: (c_NoPlain, false) :: (c_NoRows, false) :: (c_NoRule, false) :: (c_NotAlike, false) :: (c_NotClear, false) :: (c_NotSame, true) :: (c_NotWritten, false) :: (c_NothingDone, false) :: (c_NothingUndone, false) :: (c_OtherPlaces, false) :: (c_TooMany, false) :: [])) :: (c_NotWritten, ((c_FormError, true) :: (c_BadAnswers, false) :: (c_BadBook, false) :: (c_BadCells, false) :: (c_BadCount, false) :: (c_BadDeeds, false) :: (c_BadEnding, false) :: (c_BadExpression, false) :: (c_BadForm, false) :: (c_BadGoal, false) :: (c_BadHeads, false) :: (c_BadInputs, false) :: (c_BadKind, false) :: (c_BadKinds, false) :: (c_BadKnot, false) :: (c_BadLine, false) :: (c_BadLot, false) :: (c_BadMany, false) :: (c_BadMost, false) :: (c_BadName, false) :: (c_BadNames, false) :: (c_BadNotation, false) :: (c_BadParts, false) :: (c_BadPath, false) :: (c_BadPaths, false) :: (c_BadPlace, false) :: (c_BadPlain, false) :: (c_BadRow, false) :: (c_BadScheme, false) :: (c_BadSheet, false) :: (c_BadSheets, false) :: (c_BadSignature, false) :: (c_BadText, false) :: (c_BadTree, false) :: (c_BadUse, false) :: (c_BadWish, false) :: (c_BadWorth, false) :: (c_BadWriting, false) :: (c_NoPlain, false) :: (c_NoRows, false) :: (c_NoRule, false) :: (c_NotAlike, false) :: (c_NotClear, false) :: (c_NotSame, false) :: (c_NotWritten, true) :: (c_NothingDone, false) :: (c_NothingUndone, false) :: (c_OtherPlaces, false) :: (c_TooMany, false) :: [])) :: (c_NothingDone, ((c_FormError, true) :: (c_BadAnswers, false) :: (c_BadBook, false) :: (c_BadCells, false) :: (c_BadCount, false) :: (c_BadDeeds, false) :: (c_BadEnding, false) :: (c_BadExpression, false) :: (c_BadForm, false) :: (c_BadGoal, false) :: (c_BadHeads, false) :: (c_BadInputs, false) :: (c_BadKind, false) :: (c_BadKinds, false) :: (c_BadKnot, false) :: (c_BadLine, false) :: (c_BadLot, false) :: (c_BadMany, false) :: (c_BadMost, false) :: (c_BadName, false) :: (c_BadNames, false) :: (c_BadNotation, false) :: (c_BadParts, false) :: (c_BadPath, false) :: (c_BadPaths, false) :: (c_BadPlace, false) :: (c_BadPlain, false) :: (c_BadRow, false) :: (c_BadScheme, false) :: (c_BadSheet, false) :: (c_BadSheets, false) :: (c_BadSignature, false) :: (c_BadText, false) :: (c_BadTree, false) :: (c_BadUse, false) :: (c_BadWish, false) :: (c_BadWorth, false) :: (c_BadWriting, false) :: (c_NoPlain, false) :: (c_NoRows, false) :: (c_NoRule, false) :: (c_NotAlike, false) :: (c_NotClear, false) :: (c_NotSame, false) :: (c_NotWritten, false) :: (c_NothingDone, true) :: (c_NothingUndone, false) :: (c_OtherPlaces, false) :: (c_TooMany, false) :: [])) :: (c_NothingUndone, ((c_FormError, true) :: (c_BadAnswers, false) :: (c_BadBook, false) :: (c_BadCells, false) :: (c_BadCount, false) :: (c_BadDeeds, false) :: (c_BadEnding, false) :: (c_BadExpression, false) :: (c_BadForm, false) :: (c_BadGoal, false) :: (c_BadHeads, false) :: (c_BadInputs, false) :: (c_BadKind, false) :: (c_BadKinds, false) :: (c_BadKnot, false) :: (c_BadLine, false) :: (c_BadLot, false) :: (c_BadMany, false) :: (c_BadMost, false) :: (c_BadName, false) :: (c_BadNames, false) :: (c_BadNotation, false) :: (c_BadParts, false) :: (c_BadPath, false) :: (c_BadPaths, false) :: (c_BadPlace, false) :: (c_BadPlain, false) :: (c_BadRow, false) :: (c_BadScheme, false) :: (c_BadSheet, false) :: (c_BadSheets, false) :: (c_BadSignature, false) :: (c_BadText, false) :: (c_BadTree, false) :: (c_BadUse, false) :: (c_BadWish, false) :: (c_BadWorth, false) :: (c_BadWriting, false) :: (c_NoPlain, false) :: (c_NoRows, false) :: (c_NoRule, false) :: (c_NotAlike, false) :: (c_NotClear, false) :: (c_NotSame, false) :: (c_NotWritten, false) :: (c_NothingDone, false) :: (c_NothingUndone, true) :: (c_OtherPlaces, false) :: (c_TooMany, false) :: [])) :: (c_OtherPlaces, ((c_FormError, true) :: (c_BadAnswers, false) :: (c_BadBook, false) :: (c_BadCells, false) :: (c_BadCount, false) :: (c_BadDeeds, false) :: (c_BadEnding, false) :: (c_BadExpression, false) :: (c_BadForm, false) :: (c_BadGoal, false) :: (c_BadHeads, false) :: (c_BadInputs, false) :: (c_BadKind, false) :: (c_BadKinds, false) :: (c_BadKnot, false) :: (c_BadLine, false) :: (c_BadLot, false) :: (c_BadMany, false) :: (c_BadMost, false) :: (c_BadName, false) :: (c_BadNames, false) :: (c_BadNotation, false) :: (c_BadParts, false) :: (c_BadPath, false) :: (c_BadPaths, false) :: (c_BadPlace, false) :: (c_BadPlain, false) :: (c_BadRow, false) :: (c_BadScheme, false) :: (c_BadSheet, false) :: (c_BadSheets, false) :: (c_BadSignature, false) :: (c_BadText, false) :: (c_BadTree, false) :: (c_BadUse, false) :: (c_BadWish, false) :: (c_BadWorth, false) :: (c_BadWriting, false) :: (c_NoPlain, false) :: (c_NoRows, false) :: (c_NoRule, false) :: (c_NotAlike, false) :: (c_NotClear, false) :: (c_NotSame, false) :: (c_NotWritten, false) :: (c_NothingDone, false) :: (c_NothingUndone, false) :: (c_OtherPlaces, true) :: (c_TooMany, false) :: [])) :: (c_TooMany, ((c_FormError, true) :: (c_BadAnswers, false) :: (c_BadBook, false) :: (c_BadCells, false) :: (c_BadCount, false) :: (c_BadDeeds, false) :: (c_BadEnding, false) :: (c_BadExpression, false) :: (c_BadForm, false) :: (c_BadGoal, false) :: (c_BadHeads, false) :: (c_BadInputs, false) :: (c_BadKind, false) :: (c_BadKinds, false) :: (c_BadKnot, false) :: (c_BadLine, false) :: (c_BadLot, false) :: (c_BadMany, false) :: (c_BadMost, false) :: (c_BadName, false) :: (c_BadNames, false) :: (c_BadNotation, false) :: (c_BadParts, false) :: (c_BadPath, false) :: (c_BadPaths, false) :: (c_BadPlace, false) :: (c_BadPlain, false) :: (c_BadRow, false) :: (c_BadScheme, false) :: (c_BadSheet, false) :: (c_BadSheets, false) :: (c_BadSignature, false) :: (c_BadText, false) :: (c_BadTree, false) :: (c_BadUse, false) :: (c_BadWish, false) :: (c_BadWorth, false) :: (c_BadWriting, false) :: (c_NoPlain, false) :: (c_NoRows, false) :: (c_NoRule, false) :: (c_NotAlike, false) :: (c_NotClear, false) :: (c_NotSame, false) :: (c_NotWritten, false) :: (c_NothingDone, false) :: (c_NothingUndone, false) :: (c_OtherPlaces, false) :: (c_TooMany, true) :: [])) :: [])
  xvl := ((c_FormError, true) :: (c_BadAnswers, true) :: (c_BadBook, true) :: (c_BadCells, true) :: (c_BadCount, true) :: (c_BadDeeds, true) :: (c_BadEnding, true) :: (c_BadExpression, true) :: (c_BadForm, true) :: (c_BadGoal, true) :: (c_BadHeads, true) :: (c_BadInputs, true) :: (c_BadKind, true) :: (c_BadKinds, true) :: (c_BadKnot, true) :: (c_BadLine, true) :: (c_BadLot, true) :: (c_BadMany, true) :: (c_BadMost, true) :: (c_BadName, true) :: (c_BadNames, true) :: (c_BadNotation, true) :: (c_BadParts, true) :: (c_BadPath, true) :: (c_BadPaths, true) :: (c_BadPlace, true) :: (c_BadPlain, true) :: (c_BadRow, true) :: (c_BadScheme, true) :: (c_BadSheet, true) :: (c_BadSheets, true) :: (c_BadSignature, true) :: (c_BadText, true) :: (c_BadTree, true) :: (c_BadUse, true) :: (c_BadWish, true) :: (c_BadWorth, true) :: (c_BadWriting, true) :: (c_NoPlain, true) :: (c_NoRows, true) :: (c_NoRule, true) :: (c_NotAlike, true) :: (c_NotClear, true) :: (c_NotSame, true) :: (c_NotWritten, true) :: (c_NothingDone, true) :: (c_NothingUndone, true) :: (c_OtherPlaces, true) :: (c_TooMany, true) :: [])
  xfl := ((c_FormError, []) :: (c_BadAnswers, []) :: (c_BadBook, []) :: (c_BadCells, []) :: (c_BadCount, []) :: (c_BadDeeds, []) :: (c_BadEnding, []) :: (c_BadExpression, []) :: (c_BadForm, []) :: (c_BadGoal, []) :: (c_BadHeads, []) :: (c_BadInputs, []) :: (c_BadKind, []) :: (c_BadKinds, []) :: (c_BadKnot, []) :: (c_BadLine, []) :: (c_BadLot, []) :: (c_BadMany, []) :: (c_BadMost, []) :: (c_BadName, []) :: (c_BadNames, []) :: (c_BadNotation, []) :: (c_BadParts, []) :: (c_BadPath, []) :: (c_BadPaths, []) :: (c_BadPlace, []) :: (c_BadPlain, []) :: (c_BadRow, []) :: (c_BadScheme, []) :: (c_BadSheet, []) :: (c_BadSheets, []) :: (c_BadSignature, []) :: (c_BadText, ["at", "wanted"]) :: (c_BadTree, []) :: (c_BadUse, []) :: (c_BadWish, []) :: (c_BadWorth, []) :: (c_BadWriting, []) :: (c_NoPlain, []) :: (c_NoRows, []) :: (c_NoRule, ["place"]) :: (c_NotAlike, []) :: (c_NotClear, ["spot"]) :: (c_NotSame, []) :: (c_NotWritten, ["name"]) :: (c_NothingDone, []) :: (c_NothingUndone, []) :: (c_OtherPlaces, []) :: (c_TooMany, ["most"]) :: [])
  cau := []
  lam0 := 1000
  art := [1, 1, 2, 2, 0, 2, 1, 1]
abbrev Pk : Prog := pt.prog
end Py.Pl
set_option Elab.async false
set_option linter.all false
set_option maxRecDepth 100000
set_option maxHeartbeats 0
namespace Py.Pl
open PySem PySem.Spec PyProof.Rows L2
def top (i : Nat) : Stmt := PySem.Challenge.pw_formrules_k08_errors_made_and_bases.main.body.getD i (.Pass ⟨0, 0, 0, 0⟩)
def subOf : Stmt → Nat → Stmt
  | .ClassDef _ _ _ body .., j => body.getD j (.Pass ⟨0, 0, 0, 0⟩)
  | _, _ => .Pass ⟨0, 0, 0, 0⟩
def sub (i j : Nat) : Stmt := subOf (top i) j
abbrev topN : Nat := 58
abbrev s__law_begun : Stmt := top 51
def N__law_begun : List Str := ["script", "wide", ".0", "grain"]
def d__law_begun : He.DefD := ⟨("_law_begun", none), "_law_begun", "_law_begun", defArgs s__law_begun, defBody s__law_begun, defScope s__law_begun, [], []⟩
abbrev s__law_mixed : Stmt := top 52
def N__law_mixed : List Str := ["draw", "turn", "found", "prime", "blend", "grain"]
def d__law_mixed : He.DefD := ⟨("_law_mixed", none), "_law_mixed", "_law_mixed", defArgs s__law_mixed, defBody s__law_mixed, defScope s__law_mixed, [], []⟩
abbrev s__law_take : Stmt := top 53
def N__law_take : List Str := ["draw", "many", "found"]
def d__law_take : He.DefD := ⟨("_law_take", none), "_law_take", "_law_take", defArgs s__law_take, defBody s__law_take, defScope s__law_take, [], []⟩
abbrev s__law_pick : Stmt := top 54
def N__law_pick : List Str := ["draw", "some"]
def d__law_pick : He.DefD := ⟨("_law_pick", none), "_law_pick", "_law_pick", defArgs s__law_pick, defBody s__law_pick, defScope s__law_pick, [], []⟩
abbrev s__law_plain_errors : Stmt := top 55
def N__law_plain_errors : List Str := ["found"]
def d__law_plain_errors : He.DefD := ⟨("_law_plain_errors", none), "_law_plain_errors", "_law_plain_errors", defArgs s__law_plain_errors, defBody s__law_plain_errors, defScope s__law_plain_errors, [], []⟩
abbrev s__law_told_errors : Stmt := top 56
def N__law_told_errors : List Str := ["one", "other", "found", "error"]
def d__law_told_errors : He.DefD := ⟨("_law_told_errors", none), "_law_told_errors", "_law_told_errors", defArgs s__law_told_errors, defBody s__law_told_errors, defScope s__law_told_errors, [], []⟩
abbrev s__law_classes : Stmt := top 57
def N__law_classes : List Str := ["error", "found", ".0", "k", "is_one"]
def d__law_classes : He.DefD := ⟨("_law_classes", none), "_law_classes", "_law_classes", defArgs s__law_classes, defBody s__law_classes, defScope s__law_classes, [], []⟩
abbrev s_law : Stmt := top 58
def N_law : List Str := ["script", "draw", "some", "one", "other", "told", "errors_here", "error", "classes", "mine", "due", ".0", "entry", "found"]
def d_law : He.DefD := ⟨("law", none), "law", "law", defArgs s_law, defBody s_law, defScope s_law, [], []⟩
def tc : Tc where
  N := []
  sc := { kind := .function, names := [], isGenerator := false, isCoroutine := false }
  fns := [("_law_begun", (i__law_begun, ["script"], [false])), ("_law_mixed", (i__law_mixed, ["draw"], [true])), ("_law_take", (i__law_take, ["draw", "many"], [true, false])), ("_law_pick", (i__law_pick, ["draw", "some"], [true, false])), ("_law_plain_errors", (i__law_plain_errors, [], [])), ("_law_told_errors", (i__law_told_errors, ["one", "other"], [false, false])), ("_law_classes", (i__law_classes, ["error"], [false])), ("law", (i_law, ["script"], [false]))]
  cls := []
  gls := []
  mts := []
  kws := []
  blt := ["isinstance", "int", "bool", "str", "tuple", "list", "dict", "len", "all", "any", "repr", "abs", "min", "max", "sum", "range", "enumerate", "set", "super", "ValueError"]
  drs := ["draw"]
  xcs := (("FormError", c_FormError) :: ("BadAnswers", c_BadAnswers) :: ("BadBook", c_BadBook) :: ("BadCells", c_BadCells) :: ("BadCount", c_BadCount) :: ("BadDeeds", c_BadDeeds) :: ("BadEnding", c_BadEnding) :: ("BadExpression", c_BadExpression) :: ("BadForm", c_BadForm) :: ("BadGoal", c_BadGoal) :: ("BadHeads", c_BadHeads) :: ("BadInputs", c_BadInputs) :: ("BadKind", c_BadKind) :: ("BadKinds", c_BadKinds) :: ("BadKnot", c_BadKnot) :: ("BadLine", c_BadLine) :: ("BadLot", c_BadLot) :: ("BadMany", c_BadMany) :: ("BadMost", c_BadMost) :: ("BadName", c_BadName) :: ("BadNames", c_BadNames) :: ("BadNotation", c_BadNotation) :: ("BadParts", c_BadParts) :: ("BadPath", c_BadPath) :: ("BadPaths", c_BadPaths) :: ("BadPlace", c_BadPlace) :: ("BadPlain", c_BadPlain) :: ("BadRow", c_BadRow) :: ("BadScheme", c_BadScheme) :: ("BadSheet", c_BadSheet) :: ("BadSheets", c_BadSheets) :: ("BadSignature", c_BadSignature) :: ("BadText", c_BadText) :: ("BadTree", c_BadTree) :: ("BadUse", c_BadUse) :: ("BadWish", c_BadWish) :: ("BadWorth", c_BadWorth) :: ("BadWriting", c_BadWriting) :: ("NoPlain", c_NoPlain) :: ("NoRows", c_NoRows) :: ("NoRule", c_NoRule) :: ("NotAlike", c_NotAlike) :: ("NotClear", c_NotClear) :: ("NotSame", c_NotSame) :: ("NotWritten", c_NotWritten) :: ("NothingDone", c_NothingDone) :: ("NothingUndone", c_NothingUndone) :: ("OtherPlaces", c_OtherPlaces) :: ("TooMany", c_TooMany) :: [])
  ler := []
  kwp := []
def ht : HTab where
  p := pt
  ds := [d__law_begun, d__law_mixed, d__law_take, d__law_pick, d__law_plain_errors, d__law_told_errors, d__law_classes, d_law]
  Ns := [N__law_begun, N__law_mixed, N__law_take, N__law_pick, N__law_plain_errors, N__law_told_errors, N__law_classes, N_law]
  ps := [["script"], ["draw"], ["draw", "many"], ["draw", "some"], [], ["one", "other"], ["error"], ["script"]]
  cn := ("FormError" :: "BadAnswers" :: "BadBook" :: "BadCells" :: "BadCount" :: "BadDeeds" :: "BadEnding" :: "BadExpression" :: "BadForm" :: "BadGoal" :: "BadHeads" :: "BadInputs" :: "BadKind" :: "BadKinds" :: "BadKnot" :: "BadLine" :: "BadLot" :: "BadMany" :: "BadMost" :: "BadName" :: "BadNames" :: "BadNotation" :: "BadParts" :: "BadPath" :: "BadPaths" :: "BadPlace" :: "BadPlain" :: "BadRow" :: "BadScheme" :: "BadSheet" :: "BadSheets" :: "BadSignature" :: "BadText" :: "BadTree" :: "BadUse" :: "BadWish" :: "BadWorth" :: "BadWriting" :: "NoPlain" :: "NoRows" :: "NoRule" :: "NotAlike" :: "NotClear" :: "NotSame" :: "NotWritten" :: "NothingDone" :: "NothingUndone" :: "OtherPlaces" :: "TooMany" :: [])
  t := tc
  law := i_law
  xn := ("FormError" :: "BadAnswers" :: "BadBook" :: "BadCells" :: "BadCount" :: "BadDeeds" :: "BadEnding" :: "BadExpression" :: "BadForm" :: "BadGoal" :: "BadHeads" :: "BadInputs" :: "BadKind" :: "BadKinds" :: "BadKnot" :: "BadLine" :: "BadLot" :: "BadMany" :: "BadMost" :: "BadName" :: "BadNames" :: "BadNotation" :: "BadParts" :: "BadPath" :: "BadPaths" :: "BadPlace" :: "BadPlain" :: "BadRow" :: "BadScheme" :: "BadSheet" :: "BadSheets" :: "BadSignature" :: "BadText" :: "BadTree" :: "BadUse" :: "BadWish" :: "BadWorth" :: "BadWriting" :: "NoPlain" :: "NoRows" :: "NoRule" :: "NotAlike" :: "NotClear" :: "NotSame" :: "NotWritten" :: "NothingDone" :: "NothingUndone" :: "OtherPlaces" :: "TooMany" :: [])
  fe := ""
  lbs := [false, false, false, false, false, false, false, false]
  lams := []
  file := "/claim/cut.py"
theorem ht_tr : ht.p.fns = trL ht.t ht.ds ht.Ns [[false], [true], [true, false], [true, false], [], [false, false], [false], [false]] ht.lbs := by kernel_rfl
theorem ht_check : ht.check = true := by kernel_rfl
theorem pos__law_begun (kV doc pm : Value) (an : Option Addr) (cdv ct : Value) : ∀ us : List Value, us.length = 1 → bindArgs (PySem.W.fnOf d__law_begun.name d__law_begun.qual d__law_begun.params d__law_begun.body d__law_begun.scope Value.none kV doc pm an cdv ct) { pos := us } = pure ((["script"] : List Str).zip us)
  | [_], _ => rfl
theorem pos__law_mixed (kV doc pm : Value) (an : Option Addr) (cdv ct : Value) : ∀ us : List Value, us.length = 1 → bindArgs (PySem.W.fnOf d__law_mixed.name d__law_mixed.qual d__law_mixed.params d__law_mixed.body d__law_mixed.scope Value.none kV doc pm an cdv ct) { pos := us } = pure ((["draw"] : List Str).zip us)
  | [_], _ => rfl
theorem pos__law_take (kV doc pm : Value) (an : Option Addr) (cdv ct : Value) : ∀ us : List Value, us.length = 2 → bindArgs (PySem.W.fnOf d__law_take.name d__law_take.qual d__law_take.params d__law_take.body d__law_take.scope Value.none kV doc pm an cdv ct) { pos := us } = pure ((["draw", "many"] : List Str).zip us)
  | [_, _], _ => rfl
theorem pos__law_pick (kV doc pm : Value) (an : Option Addr) (cdv ct : Value) : ∀ us : List Value, us.length = 2 → bindArgs (PySem.W.fnOf d__law_pick.name d__law_pick.qual d__law_pick.params d__law_pick.body d__law_pick.scope Value.none kV doc pm an cdv ct) { pos := us } = pure ((["draw", "some"] : List Str).zip us)
  | [_, _], _ => rfl
theorem pos__law_plain_errors (kV doc pm : Value) (an : Option Addr) (cdv ct : Value) : ∀ us : List Value, us.length = 0 → bindArgs (PySem.W.fnOf d__law_plain_errors.name d__law_plain_errors.qual d__law_plain_errors.params d__law_plain_errors.body d__law_plain_errors.scope Value.none kV doc pm an cdv ct) { pos := us } = pure (([] : List Str).zip us)
  | [], _ => rfl
theorem pos__law_told_errors (kV doc pm : Value) (an : Option Addr) (cdv ct : Value) : ∀ us : List Value, us.length = 2 → bindArgs (PySem.W.fnOf d__law_told_errors.name d__law_told_errors.qual d__law_told_errors.params d__law_told_errors.body d__law_told_errors.scope Value.none kV doc pm an cdv ct) { pos := us } = pure ((["one", "other"] : List Str).zip us)
  | [_, _], _ => rfl
theorem pos__law_classes (kV doc pm : Value) (an : Option Addr) (cdv ct : Value) : ∀ us : List Value, us.length = 1 → bindArgs (PySem.W.fnOf d__law_classes.name d__law_classes.qual d__law_classes.params d__law_classes.body d__law_classes.scope Value.none kV doc pm an cdv ct) { pos := us } = pure ((["error"] : List Str).zip us)
  | [_], _ => rfl
theorem pos_law (kV doc pm : Value) (an : Option Addr) (cdv ct : Value) : ∀ us : List Value, us.length = 1 → bindArgs (PySem.W.fnOf d_law.name d_law.qual d_law.params d_law.body d_law.scope Value.none kV doc pm an cdv ct) { pos := us } = pure ((["script"] : List Str).zip us)
  | [_], _ => rfl
theorem ht_pos : ∀ i d, ht.ds[i]? = some d → ∀ (kV doc pm : Value) (an : Option Addr) (cdv ct : Value) (us : List Value), us.length = (ht.psf i).length → bindArgs (PySem.W.fnOf d.name d.qual d.params d.body d.scope Value.none kV doc pm an cdv ct) { pos := us } = pure ((ht.psf i).zip us)
  | 0, d, e => by cases e; exact pos__law_begun
  | 1, d, e => by cases e; exact pos__law_mixed
  | 2, d, e => by cases e; exact pos__law_take
  | 3, d, e => by cases e; exact pos__law_pick
  | 4, d, e => by cases e; exact pos__law_plain_errors
  | 5, d, e => by cases e; exact pos__law_told_errors
  | 6, d, e => by cases e; exact pos__law_classes
  | 7, d, e => by cases e; exact pos_law
  | n + 8, d, e => by cases e
theorem ht_kw : ∀ p ∈ ht.t.fns, ∀ np, np ≤ p.2.2.1.length → ht.t.kws.any (· == (p.1, np)) = true → ∀ d, ht.ds[p.2.1]? = some d → ∀ (kV doc pm : Value) (an : Option Addr) (cdv ct : Value) (us ws : List Value), us.length = np → ws.length = (p.2.2.1.drop np).length →
      bindArgs (PySem.W.fnOf d.name d.qual d.params d.body d.scope Value.none kV doc pm an cdv ct) ⟨us, (p.2.2.1.drop np).zip ws⟩ = pure (p.2.2.1.zip (us ++ ws)) := by
  intro p hp np hn hk d hd kV doc pm an cdv ct us ws hu hw
  have key : ∀ p ∈ ht.t.fns, ∀ q ∈ ht.t.kws, p.1 = q.1 → (p, q.2) ∈ ([] : List ((Str × Nat × List Str × List Bool) × Nat)) := by decide +kernel
  obtain ⟨q, hq, e⟩ := List.any_eq_true.mp hk
  rw [beq_iff_eq] at e
  subst e
  have m := key p hp _ hq rfl
  cases m
theorem ht_kp : ∀ q ∈ ht.t.kwp, ∀ p ∈ ht.t.fns, p.1 = q.1 → q.2.1 + q.2.2.1.length = p.2.2.1.length ∧ ∀ d, ht.ds[p.2.1]? = some d → ∀ (kV doc pm : Value) (an : Option Addr) (cdv ct : Value) (us ws : List Value), us.length = q.2.1 → ws.length = q.2.2.1.length →
      bindArgs (PySem.W.fnOf d.name d.qual d.params d.body d.scope Value.none kV doc pm an cdv ct) ⟨us, q.2.2.1.zip ws⟩ = pure (p.2.2.1.zip (permL q.2.2.2 (us ++ ws))) ∧ (permL q.2.2.2 (us ++ ws)).length = p.2.2.1.length := by
  intro q hq
  cases hq
theorem ht_ler : ∀ x, ht.t.ler.contains x = true → IsLer ht x := by
  intro x hx
  cases hx
abbrev lawAt : Nat := 58
def loose : List Str := ("FormError" :: "BadAnswers" :: "BadBook" :: "BadCells" :: "BadCount" :: "BadDeeds" :: "BadEnding" :: "BadExpression" :: "BadForm" :: "BadGoal" :: "BadHeads" :: "BadInputs" :: "BadKind" :: "BadKinds" :: "BadKnot" :: "BadLine" :: "BadLot" :: "BadMany" :: "BadMost" :: "BadName" :: "BadNames" :: "BadNotation" :: "BadParts" :: "BadPath" :: "BadPaths" :: "BadPlace" :: "BadPlain" :: "BadRow" :: "BadScheme" :: "BadSheet" :: "BadSheets" :: "BadSignature" :: "BadText" :: "BadTree" :: "BadUse" :: "BadWish" :: "BadWorth" :: "BadWriting" :: "NoPlain" :: "NoRows" :: "NoRule" :: "NotAlike" :: "NotClear" :: "NotSame" :: "NotWritten" :: "NothingDone" :: "NothingUndone" :: "OtherPlaces" :: "TooMany" :: "_law_begun" :: "_law_mixed" :: "_law_take" :: "_law_pick" :: "_law_plain_errors" :: "_law_told_errors" :: "_law_classes" :: [])
abbrev RR : PySem.W.OpenRow := PySem.W.OpenLaw.row PySem.Challenge.rw_formrules_k08_errors_made_and_bases
abbrev hk : PySem.W.Hook := Py.hookY 5 ht.fa ht.ds ht.tabs ht.tf ht.ex
def ob (s : PySem.W.SharedT) : He.AlX := Py.obsY 5 ht.fa ht.ds ht.tabs ht.tf ht.ex (HandSHeadRun.getT s)
theorem ob_eq (s : PySem.W.SharedT) : ob s = hk.obs s.abs := Py.obsY_eq (HandSHeadRun.getT_eq s)
theorem runA1 (w : World) : HandSHeadRun.RunEq RR (PySem.W.view RR.prog [lawAt]) (Py.hookY 5 ht.fa ht.ds ht.tabs ht.tf ht.exA) (fun s => Py.obsY 5 ht.fa ht.ds ht.tabs ht.tf ht.exA (HandSHeadRun.getT s)) 40000 loose (w.withFollow "special-get-raises" false) := by
  intro os
  kernel_rfl
theorem runB1 (w : World) : HandSHeadRun.RunEq RR (PySem.W.view RR.prog [lawAt]) (Py.hookY 5 [] [] [] [] ht.exB) (fun s => Py.obsY 5 [] [] [] [] ht.exB (HandSHeadRun.getT s)) 40000 loose (w.withFollow "special-get-raises" false) := by
  intro os
  kernel_rfl
theorem runC1 (w : World) : HandSHeadRun.RunEq RR (PySem.W.view RR.prog [lawAt]) (Py.hookY 5 [] [] [] [] ht.exC) (fun s => Py.obsY 5 [] [] [] [] ht.exC (HandSHeadRun.getT s)) 40000 loose (w.withFollow "special-get-raises" false) := by
  intro os
  kernel_rfl
theorem run1 (w : World) : HandSHeadRun.RunEq RR (PySem.W.view RR.prog [lawAt]) hk ob 40000 loose (w.withFollow "special-get-raises" false) := Py.run_and (Py.run_and (runA1 w) (runB1 w)) (runC1 w)
theorem runA2 (w : World) : HandSHeadRun.RunEq RR (PySem.W.view RR.prog [lawAt]) (Py.hookY 5 ht.fa ht.ds ht.tabs ht.tf ht.exA) (fun s => Py.obsY 5 ht.fa ht.ds ht.tabs ht.tf ht.exA (HandSHeadRun.getT s)) 40000 loose (w.withFollow "special-get-raises" true) := by
  intro os
  kernel_rfl
theorem runB2 (w : World) : HandSHeadRun.RunEq RR (PySem.W.view RR.prog [lawAt]) (Py.hookY 5 [] [] [] [] ht.exB) (fun s => Py.obsY 5 [] [] [] [] ht.exB (HandSHeadRun.getT s)) 40000 loose (w.withFollow "special-get-raises" true) := by
  intro os
  kernel_rfl
theorem runC2 (w : World) : HandSHeadRun.RunEq RR (PySem.W.view RR.prog [lawAt]) (Py.hookY 5 [] [] [] [] ht.exC) (fun s => Py.obsY 5 [] [] [] [] ht.exC (HandSHeadRun.getT s)) 40000 loose (w.withFollow "special-get-raises" true) := by
  intro os
  kernel_rfl
theorem run2 (w : World) : HandSHeadRun.RunEq RR (PySem.W.view RR.prog [lawAt]) hk ob 40000 loose (w.withFollow "special-get-raises" true) := Py.run_and (Py.run_and (runA2 w) (runB2 w)) (runC2 w)
theorem run (w : World) : HandSHeadRun.RunEq RR (PySem.W.view RR.prog [lawAt]) hk ob 40000 loose w := PySem.W.byRow2 "special-get-raises" (P := fun w => HandSHeadRun.RunEq RR (PySem.W.view RR.prog [lawAt]) hk ob 40000 loose w) run1 run2 w
end Py.Pl
set_option linter.all false
set_option maxRecDepth 100000
set_option maxHeartbeats 1000000
/-! the draws -/
namespace Py.Pl
open PySem (Str)
open M
local macro_rules
  | `(tactic| simp! only [$ls,*]) => `(tactic| simp only [bnd_app, bndR_ok, bndR_none, bndR_ex, bndR_ite, ret_app, pure_app, stuck_app, lift_some, lift_none, ite_app, fzM_app, ite_bl, ite_d, ite_dbl, ite_rt, d_lit, d_var, d_glob, d_tup, d_lst, d_bin, d_neg, d_cmp, d_chain, d_and, d_or, d_not, d_ifE, d_idx, d_slice, d_rev, d_attr, d_call, d_meth, d_make, d_bi, d_isi, d_bm, d_lc, d_dc, d_drI, d_drW, d_drP, dEs_nil, dEs_cons, dOs_nil, dOs_cons, dAs_nil, dAs_v, dAs_io, dO_none, dO_some, dCs_nil, dCs_cons, dI_of, dI_rng, dI_enm, s_nil, s_cons, sq_nx, sq_rt, sq_bk, sq_ct, sq_none, sq_ite, s_skip, s_expr, s_set, s_setp, s_par, s_app, s_ext, s_upd, s_setf, s_ret, s_iff, s_for, s_whl, s_drS, s_retD, s_forC, dWs_nil, dWs_cons, iff_bl, boolOf_bl, nxt_app, valM_some, newM_some, blM_some, fin1_var, fin2_app, opd_var, pk_0, pk_s, bindP_name, bindP_tup, bindPs_nil, bindPs_cons, setVs_nil, setVs_cons, gotV_ok, gotV_own, callM_v0, callM_v1, callM_v2, callM_v3, callM_v4, callM_v5, methM_v, map_v0, map_v1, next_nx, next_ct, next_bk, next_rt, next_ite, isi_int_non, isi_int_bl, isi_int_int, isi_int_str, isi_int_tup, isi_int_lst, isi_int_dic, isi_bool_non, isi_bool_bl, isi_bool_int, isi_bool_str, isi_bool_tup, isi_bool_lst, isi_bool_dic, isi_str_non, isi_str_bl, isi_str_int, isi_str_str, isi_str_tup, isi_str_lst, isi_str_dic, isi_tuple_non, isi_tuple_bl, isi_tuple_int, isi_tuple_str, isi_tuple_tup, isi_tuple_lst, isi_tuple_dic, isi_list_non, isi_list_bl, isi_list_int, isi_list_str, isi_list_tup, isi_list_lst, isi_list_dic, isi_dict_non, isi_dict_bl, isi_dict_int, isi_dict_str, isi_dict_tup, isi_dict_lst, isi_dict_dic, fz_val, fz_own, frz_lst, frz_dic, frz_ins, slot_val, slot_own, isDic_dic, ownW_lst, ownW_non, ownW_bl, ownW_int, ownW_str, ownW_tup, ownW_dic, len_tup, len_lst, len_scr, fA_nil, fA_var, iv_stk, iv_drI, iv_drW, iv_drP, iv_lit, iv_glob, iv_tup, iv_lst, iv_dic, iv_bin, iv_neg, iv_cmp, iv_chain, iv_and, iv_or, iv_not, iv_ifE, iv_idx, iv_slice, iv_rev, iv_attr, iv_call, iv_meth, iv_make, iv_bi, iv_isi, iv_bm, iv_lc, iv_dc, cmp_lt, cmp_le, cmp_gt, cmp_ge, eq_int, eq_str, eq_bl, cmp_eq, cmp_ne, map_s, eq_tup_nil, eq_lst_nil, eq_non_nilT, eq_bl_nilT, eq_int_nilT, eq_str_nilT, eq_lst_nilT, is_non, isnot_non, is_bl, isnot_bl, is_int, isnot_int, is_str, isnot_str, is_tup, isnot_tup, is_lst, isnot_lst, is_dic, isnot_dic, cmp_in, cmp_notin, idx_t0, idx_t1, idx_t2, idx_t3, idx_t4, idx_t5, op_stk, f1_stk, fa_stk, op_drI, f1_drI, fa_drI, op_drW, f1_drW, fa_drW, op_drP, f1_drP, fa_drP, op_lit, f1_lit, fa_lit, op_glob, f1_glob, fa_glob, op_tup, f1_tup, fa_tup, op_lst, f1_lst, fa_lst, op_dic, f1_dic, fa_dic, op_bin, f1_bin, fa_bin, op_neg, f1_neg, fa_neg, op_cmp, f1_cmp, fa_cmp, op_chain, f1_chain, fa_chain, op_and, f1_and, fa_and, op_or, f1_or, fa_or, op_not, f1_not, fa_not, op_ifE, f1_ifE, fa_ifE, op_idx, f1_idx, fa_idx, op_slice, f1_slice, fa_slice, op_rev, f1_rev, fa_rev, op_attr, f1_attr, fa_attr, op_call, f1_call, fa_call, op_meth, f1_meth, fa_meth, op_make, f1_make, fa_make, op_bi, f1_bi, fa_bi, op_isi, f1_isi, fa_isi, op_bm, f1_bm, fa_bm, op_lc, f1_lc, fa_lc, op_dc, f1_dc, fa_dc, rd_0, rl_0, rc_0, ri_0, sv_0, su_0, so_0, cg_0, hd_0, io_0, cd_0_0, cd_0_1, cd_0_2, cd_0_3, gd_0, rd_1, rl_1, rc_1, ri_1, sv_1, su_1, so_1, cg_1, hd_1, io_1, cd_1_0, cd_1_1, cd_1_2, cd_1_3, gd_1, rd_2, rl_2, rc_2, ri_2, sv_2, su_2, so_2, cg_2, hd_2, io_2, cd_2_0, cd_2_1, cd_2_2, cd_2_3, gd_2, rd_3, rl_3, rc_3, ri_3, sv_3, su_3, so_3, cg_3, hd_3, io_3, cd_3_0, cd_3_1, cd_3_2, cd_3_3, gd_3, rd_4, rl_4, rc_4, ri_4, sv_4, su_4, so_4, cg_4, hd_4, io_4, cd_4_0, cd_4_1, cd_4_2, cd_4_3, gd_4, rd_5, rl_5, rc_5, ri_5, sv_5, su_5, so_5, cg_5, hd_5, io_5, cd_5_0, cd_5_1, cd_5_2, cd_5_3, gd_5, rd_6, rl_6, rc_6, ri_6, sv_6, su_6, so_6, cg_6, hd_6, io_6, cd_6_0, cd_6_1, cd_6_2, cd_6_3, gd_6, rd_7, rl_7, rc_7, ri_7, sv_7, su_7, so_7, cg_7, hd_7, io_7, cd_7_0, cd_7_1, cd_7_2, cd_7_3, gd_7, rd_8, rl_8, rc_8, ri_8, sv_8, su_8, so_8, cg_8, hd_8, io_8, cd_8_0, cd_8_1, cd_8_2, cd_8_3, gd_8, rd_9, rl_9, rc_9, ri_9, sv_9, su_9, so_9, cg_9, hd_9, io_9, cd_9_0, cd_9_1, cd_9_2, cd_9_3, gd_9, rd_10, rl_10, rc_10, ri_10, sv_10, su_10, so_10, cg_10, hd_10, io_10, cd_10_0, cd_10_1, cd_10_2, cd_10_3, gd_10, rd_11, rl_11, rc_11, ri_11, sv_11, su_11, so_11, cg_11, hd_11, io_11, cd_11_0, cd_11_1, cd_11_2, cd_11_3, gd_11, rd_12, rl_12, rc_12, ri_12, sv_12, su_12, so_12, cg_12, hd_12, io_12, cd_12_0, cd_12_1, cd_12_2, cd_12_3, gd_12, rd_13, rl_13, rc_13, ri_13, sv_13, su_13, so_13, cg_13, hd_13, io_13, cd_13_0, cd_13_1, cd_13_2, cd_13_3, gd_13, rd_14, rl_14, rc_14, ri_14, sv_14, su_14, so_14, cg_14, hd_14, io_14, cd_14_0, cd_14_1, cd_14_2, cd_14_3, gd_14, app_lst, ext_lst, isL_lst, isD_dic, noEx_app, noX_ok, wipe_nil, wipe_cons, back_nil, back_cons, plain_nil, plain_cons, pAt_s, pAt_un, pAt_val, gt_0, gt_s, set_0, set_s, and_tt, d_callP, d_callN, d_isc, d_isv, d_mkx, d_sdf, d_lerr, s_seti, s_rse, raise_app, sq_ex, next_ex, gotV_ex, bindP_lst, op_sdf, f1_sdf, fa_sdf, op_isc, f1_isc, fa_isc, op_lerr, f1_lerr, fa_lerr, op_callP, f1_callP, fa_callP, op_callN, f1_callN, fa_callN, pk_own, cf_call, List.append_nil, List.nil_append, List.cons_append, List.replicate, List.length, Nat.sub_self, Nat.reduceAdd, Nat.reduceSub, Nat.reduceLeDiff, Bool.decide_eq_true, Bool.cond_false_right, Bool.cond_true_left, Bool.cond_false_left, ite_self, if_true, if_false, Bool.false_eq_true, reduceIte, $ls,*])
  | `(tactic| simp! [$ls,*]) => `(tactic| simp [bnd_app, bndR_ok, bndR_none, bndR_ex, bndR_ite, ret_app, pure_app, stuck_app, lift_some, lift_none, ite_app, fzM_app, ite_bl, ite_d, ite_dbl, ite_rt, d_lit, d_var, d_glob, d_tup, d_lst, d_bin, d_neg, d_cmp, d_chain, d_and, d_or, d_not, d_ifE, d_idx, d_slice, d_rev, d_attr, d_call, d_meth, d_make, d_bi, d_isi, d_bm, d_lc, d_dc, d_drI, d_drW, d_drP, dEs_nil, dEs_cons, dOs_nil, dOs_cons, dAs_nil, dAs_v, dAs_io, dO_none, dO_some, dCs_nil, dCs_cons, dI_of, dI_rng, dI_enm, s_nil, s_cons, sq_nx, sq_rt, sq_bk, sq_ct, sq_none, sq_ite, s_skip, s_expr, s_set, s_setp, s_par, s_app, s_ext, s_upd, s_setf, s_ret, s_iff, s_for, s_whl, s_drS, s_retD, s_forC, dWs_nil, dWs_cons, iff_bl, boolOf_bl, nxt_app, valM_some, newM_some, blM_some, fin1_var, fin2_app, opd_var, pk_0, pk_s, bindP_name, bindP_tup, bindPs_nil, bindPs_cons, setVs_nil, setVs_cons, gotV_ok, gotV_own, callM_v0, callM_v1, callM_v2, callM_v3, callM_v4, callM_v5, methM_v, map_v0, map_v1, next_nx, next_ct, next_bk, next_rt, next_ite, isi_int_non, isi_int_bl, isi_int_int, isi_int_str, isi_int_tup, isi_int_lst, isi_int_dic, isi_bool_non, isi_bool_bl, isi_bool_int, isi_bool_str, isi_bool_tup, isi_bool_lst, isi_bool_dic, isi_str_non, isi_str_bl, isi_str_int, isi_str_str, isi_str_tup, isi_str_lst, isi_str_dic, isi_tuple_non, isi_tuple_bl, isi_tuple_int, isi_tuple_str, isi_tuple_tup, isi_tuple_lst, isi_tuple_dic, isi_list_non, isi_list_bl, isi_list_int, isi_list_str, isi_list_tup, isi_list_lst, isi_list_dic, isi_dict_non, isi_dict_bl, isi_dict_int, isi_dict_str, isi_dict_tup, isi_dict_lst, isi_dict_dic, fz_val, fz_own, frz_lst, frz_dic, frz_ins, slot_val, slot_own, isDic_dic, ownW_lst, ownW_non, ownW_bl, ownW_int, ownW_str, ownW_tup, ownW_dic, len_tup, len_lst, len_scr, fA_nil, fA_var, iv_stk, iv_drI, iv_drW, iv_drP, iv_lit, iv_glob, iv_tup, iv_lst, iv_dic, iv_bin, iv_neg, iv_cmp, iv_chain, iv_and, iv_or, iv_not, iv_ifE, iv_idx, iv_slice, iv_rev, iv_attr, iv_call, iv_meth, iv_make, iv_bi, iv_isi, iv_bm, iv_lc, iv_dc, cmp_lt, cmp_le, cmp_gt, cmp_ge, eq_int, eq_str, eq_bl, cmp_eq, cmp_ne, map_s, eq_tup_nil, eq_lst_nil, eq_non_nilT, eq_bl_nilT, eq_int_nilT, eq_str_nilT, eq_lst_nilT, is_non, isnot_non, is_bl, isnot_bl, is_int, isnot_int, is_str, isnot_str, is_tup, isnot_tup, is_lst, isnot_lst, is_dic, isnot_dic, cmp_in, cmp_notin, idx_t0, idx_t1, idx_t2, idx_t3, idx_t4, idx_t5, op_stk, f1_stk, fa_stk, op_drI, f1_drI, fa_drI, op_drW, f1_drW, fa_drW, op_drP, f1_drP, fa_drP, op_lit, f1_lit, fa_lit, op_glob, f1_glob, fa_glob, op_tup, f1_tup, fa_tup, op_lst, f1_lst, fa_lst, op_dic, f1_dic, fa_dic, op_bin, f1_bin, fa_bin, op_neg, f1_neg, fa_neg, op_cmp, f1_cmp, fa_cmp, op_chain, f1_chain, fa_chain, op_and, f1_and, fa_and, op_or, f1_or, fa_or, op_not, f1_not, fa_not, op_ifE, f1_ifE, fa_ifE, op_idx, f1_idx, fa_idx, op_slice, f1_slice, fa_slice, op_rev, f1_rev, fa_rev, op_attr, f1_attr, fa_attr, op_call, f1_call, fa_call, op_meth, f1_meth, fa_meth, op_make, f1_make, fa_make, op_bi, f1_bi, fa_bi, op_isi, f1_isi, fa_isi, op_bm, f1_bm, fa_bm, op_lc, f1_lc, fa_lc, op_dc, f1_dc, fa_dc, rd_0, rl_0, rc_0, ri_0, sv_0, su_0, so_0, cg_0, hd_0, io_0, cd_0_0, cd_0_1, cd_0_2, cd_0_3, gd_0, rd_1, rl_1, rc_1, ri_1, sv_1, su_1, so_1, cg_1, hd_1, io_1, cd_1_0, cd_1_1, cd_1_2, cd_1_3, gd_1, rd_2, rl_2, rc_2, ri_2, sv_2, su_2, so_2, cg_2, hd_2, io_2, cd_2_0, cd_2_1, cd_2_2, cd_2_3, gd_2, rd_3, rl_3, rc_3, ri_3, sv_3, su_3, so_3, cg_3, hd_3, io_3, cd_3_0, cd_3_1, cd_3_2, cd_3_3, gd_3, rd_4, rl_4, rc_4, ri_4, sv_4, su_4, so_4, cg_4, hd_4, io_4, cd_4_0, cd_4_1, cd_4_2, cd_4_3, gd_4, rd_5, rl_5, rc_5, ri_5, sv_5, su_5, so_5, cg_5, hd_5, io_5, cd_5_0, cd_5_1, cd_5_2, cd_5_3, gd_5, rd_6, rl_6, rc_6, ri_6, sv_6, su_6, so_6, cg_6, hd_6, io_6, cd_6_0, cd_6_1, cd_6_2, cd_6_3, gd_6, rd_7, rl_7, rc_7, ri_7, sv_7, su_7, so_7, cg_7, hd_7, io_7, cd_7_0, cd_7_1, cd_7_2, cd_7_3, gd_7, rd_8, rl_8, rc_8, ri_8, sv_8, su_8, so_8, cg_8, hd_8, io_8, cd_8_0, cd_8_1, cd_8_2, cd_8_3, gd_8, rd_9, rl_9, rc_9, ri_9, sv_9, su_9, so_9, cg_9, hd_9, io_9, cd_9_0, cd_9_1, cd_9_2, cd_9_3, gd_9, rd_10, rl_10, rc_10, ri_10, sv_10, su_10, so_10, cg_10, hd_10, io_10, cd_10_0, cd_10_1, cd_10_2, cd_10_3, gd_10, rd_11, rl_11, rc_11, ri_11, sv_11, su_11, so_11, cg_11, hd_11, io_11, cd_11_0, cd_11_1, cd_11_2, cd_11_3, gd_11, rd_12, rl_12, rc_12, ri_12, sv_12, su_12, so_12, cg_12, hd_12, io_12, cd_12_0, cd_12_1, cd_12_2, cd_12_3, gd_12, rd_13, rl_13, rc_13, ri_13, sv_13, su_13, so_13, cg_13, hd_13, io_13, cd_13_0, cd_13_1, cd_13_2, cd_13_3, gd_13, rd_14, rl_14, rc_14, ri_14, sv_14, su_14, so_14, cg_14, hd_14, io_14, cd_14_0, cd_14_1, cd_14_2, cd_14_3, gd_14, app_lst, ext_lst, isL_lst, isD_dic, noEx_app, noX_ok, wipe_nil, wipe_cons, back_nil, back_cons, plain_nil, plain_cons, pAt_s, pAt_un, pAt_val, gt_0, gt_s, set_0, set_s, and_tt, d_callP, d_callN, d_isc, d_isv, d_mkx, d_sdf, d_lerr, s_seti, s_rse, raise_app, sq_ex, next_ex, gotV_ex, bindP_lst, op_sdf, f1_sdf, fa_sdf, op_isc, f1_isc, fa_isc, op_lerr, f1_lerr, fa_lerr, op_callP, f1_callP, fa_callP, op_callN, f1_callN, fa_callN, pk_own, cf_call, List.append_nil, List.nil_append, List.cons_append, List.replicate, List.length, Nat.sub_self, Nat.reduceAdd, Nat.reduceSub, Nat.reduceLeDiff, Bool.decide_eq_true, Bool.cond_false_right, Bool.cond_true_left, Bool.cond_false_left, ite_self, if_true, if_false, Bool.false_eq_true, reduceIte, $ls,*])
theorem drI_turn (s : Drw) (m : Bool) (ρ : Env) : drInt 0 "turn" (.own (.drw s) m :: ρ) = some (.int s.turn) := by
  show (if ("turn" : Str) = "rest" then some (D.int s.rest) else if ("turn" : Str) = "turn" then some (D.int s.turn) else none) = _
  rw [if_neg (by decide +kernel), if_pos rfl]
theorem drI_rest (s : Drw) (m : Bool) (ρ : Env) : drInt 0 "rest" (.own (.drw s) m :: ρ) = some (.int s.rest) := by
  show (if ("rest" : Str) = "rest" then some (D.int s.rest) else if ("rest" : Str) = "turn" then some (D.int s.turn) else none) = _
  rw [if_pos rfl]
theorem drS_turn (s : Drw) (v : Int) : drSet "turn" v (.drw s) = some (.drw { s with turn := v }) := by
  show (if ("turn" : Str) = "rest" then some (Ob.drw { s with rest := v }) else if ("turn" : Str) = "turn" then some (Ob.drw { s with turn := v }) else none) = _
  rw [if_neg (by decide +kernel), if_pos rfl]
theorem drS_rest (s : Drw) (v : Int) : drSet "rest" v (.drw s) = some (.drw { s with rest := v }) := by
  show (if ("rest" : Str) = "rest" then some (Ob.drw { s with rest := v }) else if ("rest" : Str) = "turn" then some (Ob.drw { s with turn := v }) else none) = _
  rw [if_pos rfl]
theorem drW_0 (s : Drw) (m : Bool) (ρ : Env) : drWid 0 (.own (.drw s) m :: ρ) = some (.bl (!s.wide.isEmpty)) := rfl
theorem cells_0 (s : Drw) (ρ : Env) : cellsAt 0 (.own (.drw s) true :: ρ) = some s.cells := rfl
/-- the state of the draws from which so many more may be drawn -/
def Good (b : Nat) (s : Drw) : Prop := s.cells ≠ [] ∨ (0 ≤ s.turn ∧ s.turn + b ≤ 1099511627776)
theorem Good.mono {a b : Nat} {s : Drw} (h : Good b s) (l : a ≤ b) : Good a s := h.imp id fun ⟨x, y⟩ => ⟨x, by omega⟩
theorem forCM_inv {p : Pat} {i : Nat} {cs : List Int} {body : M Fl} {I : List Int → Env → Prop} (hc : ∀ r ρ, I r ρ → cellsAt i ρ = some cs) (h : ∀ c r ρ, I (c :: r) ρ → ∃ ρ', turn p body (.int c) ρ = some (.ok .nx, ρ') ∧ I r ρ') :
    ∀ r ρ, I r ρ → ∃ ρ', forCM p i cs body r ρ = some (.ok .nx, ρ') ∧ I [] ρ'
  | [], ρ, hi => ⟨ρ, by
    show bnd (sameC i cs) (fun _ => ret Fl.nx) ρ = _
    rw [bnd_app]
    unfold sameC
    rw [if_pos (hc _ _ hi)]
    rfl, hi⟩
  | c :: r, ρ, hi => by
    obtain ⟨ρ1, e, i1⟩ := h c r ρ hi
    obtain ⟨ρ2, e2, i2⟩ := forCM_inv hc h r ρ1 i1
    refine ⟨ρ2, ?_, i2⟩
    have e0 : forCM p i cs body (c :: r) ρ = nextR (turn p body (.int c) ρ) (forCM p i cs body r) := by
      show bnd (sameC i cs) (fun _ => bnd (bindP p (.int c)) fun _ => bnd body _) ρ = _
      rw [bnd_app]
      have : sameC i cs ρ = some (.ok (), ρ) := by
        unfold sameC
        rw [if_pos (hc _ _ hi)]
      rw [this, bndR_ok, bnd_app]
      unfold turn nextR
      cases bindP p (.int c) ρ with
      | none => rfl
      | some q =>
        obtain ⟨r, ρ1⟩ := q
        cases r with
        | ex x => rfl
        | ok u =>
          show bnd body _ ρ1 = bndR (body ρ1) _
          rw [bnd_app] <;> rfl
    rw [e0, e, next_nx, e2]
/-! operations on ints -/
theorem add_i (i j : Int) : binD .add (.int i) (.int j) = some (.int (i + j)) := rfl
theorem sub_i (i j : Int) : binD .sub (.int i) (.int j) = some (.int (i - j)) := rfl
theorem mul_l {i : Int} (j : Int) (h : small i = true) : binD .mul (.int i) (.int j) = some (.int (i * j)) := by
  show (if (small i || small j) = true then _ else _) = _
  rw [h, Bool.true_or, if_pos rfl]
theorem mul_r (i : Int) {j : Int} (h : small j = true) : binD .mul (.int i) (.int j) = some (.int (i * j)) := by
  show (if (small i || small j) = true then _ else _) = _
  rw [h, Bool.or_true, if_pos rfl]
theorem mod_i (i : Int) {j : Int} (h : j ≠ 0) : binD .mod (.int i) (.int j) = some (.int (i.fmod j)) := by
  show (if j ≠ 0 then _ else _) = _
  rw [if_pos h]
theorem fdiv_i (i : Int) {j : Int} (h : j ≠ 0 ∧ j.natAbs < 1073741824) : binD .fdiv (.int i) (.int j) = some (.int (i.fdiv j)) := by
  show (if j ≠ 0 ∧ j.natAbs < 1073741824 then _ else _) = _
  rw [if_pos h]
theorem pow_5 {i : Int} (h : i.natAbs < 18446744073709551616) : binD .pow (.int i) (.int 5) = some (.int (i ^ 5)) := by
  show (if (0 : Int) ≤ 5 ∧ (5 : Int) ≤ 1000000 ∧ i.natAbs < 18446744073709551616 then _ else _) = _
  rw [if_pos ⟨by decide, by decide, h⟩]
  rfl
theorem int_i (i : Int) : biD .int [.int i] = some (.int i) := rfl
theorem abs_i (i : Int) : biD .abs [.int i] = some (.int (if i < 0 then -i else i)) := rfl
def slot5 (x : Slot) : Prop := x = .un ∨ ∃ d, x = .val d
theorem prime_turn {N : Nat} {s : Drw} {t f pr : Int} {x4 x5 : Slot} (hp : 2147483579 ≤ pr ∧ pr ≤ 2147483647) (ht : s.cells ≠ [] ∨ (0 ≤ t ∧ t ≤ 1099511627776)) (h4 : slot5 x4) (h5 : slot5 x5) (p3 : Slot) (h3 : slot5 p3) :
    ∃ f' x4' x5', slot5 x4' ∧ slot5 x5' ∧ turn (.name 3) (denSs (cf Pk N) [
      .set 4 (.bin .add (.bin .mul (.lit (.int (48271))) (.var 1)) (.bin .fdiv (.var 3) (.lit (.int (37))))),
      .forC (.name 5) 0 [
        .set 4 (.bin .mod (.bi .int [(.bin .add (.bin .add (.bin .mul (.var 4) (.lit (.int (69621)))) (.var 5)) (.var 1))]) (.var 3))],
      .set 2 (.bin .add (.bin .mul (.var 2) (.lit (.int (2147483647)))) (.bin .mod (.bi .int [(.bin .pow (.var 4) (.lit (.int (5))))]) (.var 3)))]) (.int pr)
      [.own (.drw s) true, .val (.int t), .val (.int f), p3, x4, x5] = some (.ok .nx, [.own (.drw s) true, .val (.int t), .val (.int f'), .val (.int pr), x4', x5']) := by
  have k1 : binD .mul (.int 48271) (.int t) = some (.int (48271 * t)) := mul_l t (by decide)
  have k2 : binD .fdiv (.int pr) (.int 37) = some (.int (pr.fdiv 37)) := fdiv_i pr (by decide)
  have hpr : pr ≠ 0 := by omega
  have inner : ∃ bl x5', slot5 x5' ∧ bl.natAbs < 18446744073709551616 ∧ forCM (.name 5) 0 s.cells (denSs (cf Pk N) [
        .set 4 (.bin .mod (.bi .int [(.bin .add (.bin .add (.bin .mul (.var 4) (.lit (.int (69621)))) (.var 5)) (.var 1))]) (.var 3))]) s.cells
        [.own (.drw s) true, .val (.int t), .val (.int f), .val (.int pr), .val (.int (48271 * t + pr.fdiv 37)), x5] = some (.ok .nx, [.own (.drw s) true, .val (.int t), .val (.int f), .val (.int pr), .val (.int bl), x5']) := by
    obtain ⟨ρ', e, r, bl, x5', rfl, h5', hb⟩ := forCM_inv (p := .name 5) (i := 0) (cs := s.cells) (body := denSs (cf Pk N) [
        .set 4 (.bin .mod (.bi .int [(.bin .add (.bin .add (.bin .mul (.var 4) (.lit (.int (69621)))) (.var 5)) (.var 1))]) (.var 3))])
      (I := fun r ρ => ∃ (_ : True) (bl : Int) (x5' : Slot), ρ = [.own (.drw s) true, .val (.int t), .val (.int f), .val (.int pr), .val (.int bl), x5'] ∧ slot5 x5' ∧ ((r = s.cells ∧ bl = 48271 * t + pr.fdiv 37) ∨ (0 ≤ bl ∧ bl < pr)))
      (fun r ρ ⟨_, bl, x5', e, _⟩ => by rw [e]; rfl) (fun c r ρ ⟨_, bl, x5', e, h5', hb⟩ => by
        subst e
        refine ⟨_, ?_, trivial, (bl * 69621 + c + t).fmod pr, .val (.int c), rfl, .inr ⟨_, rfl⟩, .inr ⟨Int.fmod_nonneg_of_pos _ (by omega), Int.fmod_lt_of_pos _ (by omega)⟩⟩
        have m1 : binD .mul (.int bl) (.int 69621) = some (.int (bl * 69621)) := mul_r bl (by decide)
        have m2 := mod_i (bl * 69621 + c + t) hpr
        unfold turn
        rcases h5' with rfl | ⟨d, rfl⟩ <;> simp! only [m1, m2, add_i, int_i])
      s.cells _ ⟨trivial, 48271 * t + pr.fdiv 37, x5, rfl, h5, .inl ⟨rfl, rfl⟩⟩
    refine ⟨bl, x5', h5', ?_, e⟩
    rcases hb with ⟨hb1, hb2⟩ | ⟨hb1, hb2⟩
    · rcases ht with ht | ht
      · exact absurd hb1.symm ht
      · have : pr.fdiv 37 ≤ 2147483647 ∧ 0 ≤ pr.fdiv 37 := by
          rw [Int.fdiv_eq_ediv_of_nonneg _ (by decide)]
          omega
        omega
    · omega
  obtain ⟨bl, x5', h5', hbl, e⟩ := inner
  refine ⟨f * 2147483647 + (bl ^ 5).fmod pr, .val (.int bl), x5', .inr ⟨_, rfl⟩, h5', ?_⟩
  have m1 : binD .mul (.int f) (.int 2147483647) = some (.int (f * 2147483647)) := mul_r f (by decide)
  have m2 := mod_i (bl ^ 5) hpr
  have m3 := pow_5 hbl
  unfold turn
  rcases h4 with rfl | ⟨d4, rfl⟩ <;> rcases h3 with rfl | ⟨d3, rfl⟩ <;> simp! only [k1, k2, add_i, int_i, cells_0, e, m1, m2, m3]
/-- the mixing -/
theorem mixed_ok {N : Nat} (hN : 1 ≤ N) {b : Nat} {s : Drw} (h : Good (b + 1) s) : ∃ v s', evalN Pk N i__law_mixed [.o (.drw s)] = some ⟨.ok (.val (.int v)), [.drw s']⟩ ∧ s'.cells = s.cells ∧ s'.wide = s.wide ∧ Good b s' := by
  have ht : ({ s with turn := s.turn + 1 } : Drw).cells ≠ [] ∨ (0 ≤ s.turn + 1 ∧ s.turn + 1 ≤ 1099511627776) := h.imp id fun ⟨x, y⟩ => ⟨by omega, by omega⟩
  obtain ⟨f1, a1, b1, h1, g1, e1⟩ := prime_turn (N := N - 1) (s := { s with turn := s.turn + 1 }) (f := 0) (pr := 2147483647) (by decide) ht (x4 := .un) (.inl rfl) (x5 := .un) (.inl rfl) .un (.inl rfl)
  obtain ⟨f2, a2, b2, h2, g2, e2⟩ := prime_turn (N := N - 1) (s := { s with turn := s.turn + 1 }) (f := f1) (pr := 2147483629) (by decide) ht h1 g1 (.val (.int 2147483647)) (.inr ⟨_, rfl⟩)
  obtain ⟨f3, a3, b3, h3, g3, e3⟩ := prime_turn (N := N - 1) (s := { s with turn := s.turn + 1 }) (f := f2) (pr := 2147483587) (by decide) ht h2 g2 (.val (.int 2147483629)) (.inr ⟨_, rfl⟩)
  obtain ⟨f4, a4, b4, h4, g4, e4⟩ := prime_turn (N := N - 1) (s := { s with turn := s.turn + 1 }) (f := f3) (pr := 2147483579) (by decide) ht h3 g3 (.val (.int 2147483587)) (.inr ⟨_, rfl⟩)
  refine ⟨f4, { s with turn := s.turn + 1 }, evalN_of (fn := F__law_mixed) rfl hN (run_rt (os := [.drw { s with turn := s.turn + 1 }]) (ρ' := [.own (.drw { s with turn := s.turn + 1 }) true, .val (.int (s.turn + 1)), .val (.int f4), .val (.int 2147483579), a4, b4]) rfl ?_ rfl), rfl, rfl, h.imp id fun ⟨x, y⟩ => ⟨by show 0 ≤ s.turn + 1; omega, by show s.turn + 1 + b ≤ _; omega⟩⟩
  simp! only [F__law_mixed, drI_turn, drS_turn, add_i, itemsD, forM_cons, forM_nil, e1, e2, e3, e4]
/-- a draw -/
theorem take_ok {N : Nat} (hN : 2 ≤ N) {b : Nat} {s : Drw} (h : Good (b + 1) s) {m : Int} (hm : 0 < m) (hm2 : m < 1073741824) :
    ∃ v s', evalN Pk N i__law_take [.o (.drw s), .v (.int m)] = some ⟨.ok (.val (.int v)), [.drw s']⟩ ∧ 0 ≤ v ∧ v < m ∧ Good b s' := by
  have hm0 : m ≠ 0 := by omega
  have fin : ∀ (s1 : Drw), Good b s1 → denSs (cf Pk (N - 1)) [
      .set 2 (.bin .mod (.bi .int [(.drI 0 "rest")]) (.var 1)),
      .drS 0 "rest" (.bin .fdiv (.drI 0 "rest") (.var 1)),
      .ret (.var 2)] [.own (.drw s1) true, .val (.int m), .un] = some (.ok (.rt (.val (.int (s1.rest.fmod m)))), [.own (.drw { s1 with rest := s1.rest.fdiv m }) true, .val (.int m), .val (.int (s1.rest.fmod m))]) := by
    intro s1 _
    have m1 := mod_i s1.rest hm0
    have m2 := fdiv_i s1.rest (j := m) ⟨hm0, by omega⟩
    simp! only [drI_rest, drS_rest, int_i, m1, m2]
  have bound : ∀ x : Int, 0 ≤ x.fmod m ∧ x.fmod m < m := fun x => ⟨Int.fmod_nonneg_of_pos _ hm, Int.fmod_lt_of_pos _ hm⟩
  have whole : ∀ s1 : Drw, Good b s1 → denS (cf Pk (N - 1)) (.iff (.cmp .eq (.drI 0 "rest") (.lit (.int (0)))) [
      .drS 0 "rest" (.ifE (.drW 0) (.drP 0) (.call i__law_mixed [(.io 0)]))] []) [.own (.drw s) true, .val (.int m), .un] = some (.ok .nx, [.own (.drw s1) true, .val (.int m), .un]) →
      ∃ v s', evalN Pk N i__law_take [.o (.drw s), .v (.int m)] = some ⟨.ok (.val (.int v)), [.drw s']⟩ ∧ 0 ≤ v ∧ v < m ∧ Good b s' := by
    intro s1 g e
    refine ⟨s1.rest.fmod m, { s1 with rest := s1.rest.fdiv m }, evalN_of (fn := F__law_take) rfl (by omega) (run_rt (os := [.drw { s1 with rest := s1.rest.fdiv m }]) (ρ' := [.own (.drw { s1 with rest := s1.rest.fdiv m }) true, .val (.int m), .val (.int (s1.rest.fmod m))]) rfl ?_ rfl), (bound _).1, (bound _).2, g⟩
    show denSs (cf Pk (N - 1)) F__law_take.body [.own (.drw s) true, .val (.int m), .un] = _
    unfold F__law_take
    rw [s_cons, e, sq_nx]
    exact fin s1 g
  by_cases hr : s.rest = 0
  · cases hw : s.wide with
    | nil =>
      obtain ⟨v, s', e, c1, c2, g⟩ := mixed_ok (N := N - 1) (by omega) h
      refine whole { s' with rest := v } g ?_
      simp! only [drI_rest, drS_rest, hr, beq_self_eq_true, drW_0, hw, List.isEmpty, Bool.not_true, e, Bool.false_eq_true]
    | cons x r =>
      refine whole { s with rest := x, wide := r } (h.mono (by omega)) ?_
      have e : drPop 0 [.own (.drw s) true, .val (.int m), .un] = some (.ok (.val (.int x)), [.own (.drw { s with wide := r }) true, .val (.int m), .un]) := by
        show (match s.wide with | w :: r => _ | [] => _) = _
        rw [hw]
        rfl
      simp! only [drI_rest, drS_rest, hr, beq_self_eq_true, drW_0, hw, List.isEmpty, Bool.not_false, e]
  · refine whole s (h.mono (by omega)) ?_
    have e : (s.rest == 0) = false := by simpa using hr
    simp! only [drI_rest, e]
/-- one of some -/
theorem pick_ok {N : Nat} (hN : 3 ≤ N) {b : Nat} {s : Drw} (h : Good (b + 1) s) {xs : List D} (h0 : xs ≠ []) (h1 : xs.length < 1073741824) :
    ∃ d s', d ∈ xs ∧ evalN Pk N i__law_pick [.o (.drw s), .v (.lst xs)] = some ⟨.ok (.val d), [.drw s']⟩ ∧ Good b s' := by
  have hl : 0 < xs.length := List.length_pos_iff.mpr h0
  obtain ⟨v, s', e, v0, v1, g⟩ := take_ok (N := N - 1) (by omega) h (m := (xs.length : Int)) (by omega) (by omega)
  obtain ⟨k, rfl⟩ : ∃ k : Nat, v = (k : Int) := ⟨v.toNat, by omega⟩
  have hk : k < xs.length := by omega
  refine ⟨xs[k], s', List.getElem_mem hk, evalN_of (fn := F__law_pick) rfl (by omega) (run_rt (os := [.drw s']) (ρ' := [.own (.drw s') true, .val (.lst xs)]) rfl ?_ rfl), g⟩
  have i : idxD (.lst xs) (.int (k : Int)) = some xs[k] := by
    show itemAt xs (k : Int) = _
    unfold itemAt place
    rw [if_pos (by omega), if_pos (by omega)]
    simp [hk]
  simp! only [F__law_pick, e, i]
set_option linter.all false
set_option maxRecDepth 100000
set_option maxHeartbeats 8000000
/-! the beginning -/
theorem pow_18 : binD .pow (.int 10) (.int 18) = some (.int 1000000000000000000) := by kernel_rfl
theorem items_scr (ns : List Int) : itemsD (.scr ns) = some (ns.map D.int) := rfl
theorem allI_map {α : Type} (f : α → Int) : ∀ xs : List α, allI (xs.map fun x => D.int (f x)) = some (xs.map f)
  | [] => rfl
  | x :: xs => by
    show (allI (xs.map fun x => D.int (f x))).map (f x :: ·) = _
    rw [allI_map f xs]
    rfl
def absI (i : Int) : Int := if i < 0 then -i else i
def wideG : D → List D
  | .int i => if 1000000000000000000 ≤ absI i then [.int (absI i - 1000000000000000000)] else []
  | _ => []
def wideI (i : Int) : List Int := if 1000000000000000000 ≤ absI i then [absI i - 1000000000000000000] else []
def cellG : D → D
  | .int i => .int ((absI i).fmod 2147483629)
  | _ => .non
theorem abs_i' (i : Int) : biD .abs [.int i] = some (.int (absI i)) := rfl
theorem wide_all : ∀ ns : List Int, allI ((ns.map D.int).flatMap wideG) = some (ns.flatMap wideI)
  | [] => rfl
  | i :: ns => by
    rw [List.map_cons, List.flatMap_cons, List.flatMap_cons]
    by_cases h : 1000000000000000000 ≤ absI i
    · have e1 : wideG (.int i) = [.int (absI i - 1000000000000000000)] := if_pos h
      have e2 : wideI i = [absI i - 1000000000000000000] := if_pos h
      rw [e1, e2]
      show (allI ((ns.map D.int).flatMap wideG)).map _ = _
      rw [wide_all ns]
      rfl
    · have e1 : wideG (.int i) = [] := if_neg h
      have e2 : wideI i = [] := if_neg h
      rw [e1, e2]
      exact wide_all ns
theorem law_begun_ok {N : Nat} (hN : 1 ≤ N) {ns : List Int} (hl : ns.length ≤ 63) : ∃ s, evalN Pk N i__law_begun [.v (.scr ns)] = some ⟨.ok (.own (.drw s)), []⟩ ∧ Good 1000000 s := by
  refine ⟨⟨ns.flatMap wideI, ns.map fun i => (absI i).fmod 2147483629, 0, 0⟩, ?_, .inr ⟨Int.le_refl _, by show (0 : Int) + 1000000 ≤ 1099511627776; decide⟩⟩
  have m1 : ∀ i : Int, binD .mod (.int i) (.int 2147483629) = some (.int (i.fmod 2147483629)) := fun i => mod_i i (by decide)
  have e1 := lcM_flat (p := .name 3) (own := [2, 3]) (test := denCs (cf Pk (N - 1)) [(.cmp .ge (.bi .abs [(.var 3)]) (.bin .pow (.lit (.int (10))) (.lit (.int (18)))))]) (elt := fzM (den (cf Pk (N - 1)) (.bin .sub (.bi .abs [(.var 3)]) (.bin .pow (.lit (.int (10))) (.lit (.int (18)))))))
    (ρ := [.val (.scr ns), .un, .un, .un]) (g := wideG) (ds := ns.map D.int) (acc := []) (by unfold lim; simp; omega)
    (fun d hd => by
      obtain ⟨i, _, rfl⟩ := List.mem_map.mp hd
      show (if 1000000000000000000 ≤ absI i then [_] else []).length ≤ 1
      by_cases h : 1000000000000000000 ≤ absI i
      · rw [if_pos h]; exact Nat.le_refl _
      · rw [if_neg h]; exact Nat.zero_le _)
    (fun d hd acc hacc => by
      obtain ⟨i, _, rfl⟩ := List.mem_map.mp hd
      unfold lcT
      by_cases h : 1000000000000000000 ≤ absI i
      · have e : wideG (.int i) = [.int (absI i - 1000000000000000000)] := if_pos h
        rw [e]
        simp! only [abs_i', pow_18, h, decide_true, sub_i, hacc]
      · have e : wideG (.int i) = [] := if_neg h
        rw [e]
        simp! only [abs_i', pow_18, h, decide_false, sub_i, hacc])
  have e2 := lcM_map (p := .name 3) (own := [2, 3]) (test := denCs (cf Pk (N - 1)) []) (elt := fzM (den (cf Pk (N - 1)) (.bin .mod (.bi .int [(.bi .abs [(.var 3)])]) (.lit (.int (2147483629))))))
    (ρ := [.val (.scr ns), .own (.lst ((ns.map D.int).flatMap wideG)) false, .un, .un]) (g := cellG) (ds := ns.map D.int) (acc := []) (by unfold lim; simp; omega)
    (fun d hd acc hacc => by
      obtain ⟨i, _, rfl⟩ := List.mem_map.mp hd
      show _ = some (R.ok (acc ++ [.int ((absI i).fmod 2147483629)]), _)
      unfold lcT
      simp! only [abs_i', int_i, m1, hacc])
  have e3 : drOf 1 (.own (.lst ((ns.map D.int).map cellG))) [.val (.scr ns), .own (.lst ((ns.map D.int).flatMap wideG)) false, .un, .un] = some (.ok (.rt (.own (.drw ⟨ns.flatMap wideI, ns.map fun i => (absI i).fmod 2147483629, 0, 0⟩))), [.val (.scr ns), .un, .un, .un]) := by
    have x1 := wide_all ns
    have x2 : allI ((ns.map D.int).map cellG) = some (ns.map fun i => (absI i).fmod 2147483629) := by
      rw [List.map_map]
      exact allI_map (fun i => (absI i).fmod 2147483629) ns
    show (match allI ((ns.map D.int).flatMap wideG), allI ((ns.map D.int).map cellG) with
      | some a, some b => some (R.ok (Fl.rt (W.own (Ob.drw ⟨a, b, 0, 0⟩))), [Slot.val (.scr ns), .un, .un, .un])
      | _, _ => none) = _
    rw [x1, x2]
  refine evalN_of (fn := F__law_begun) rfl (by omega) (run_rt (os := []) (ρ' := [.val (.scr ns), .un, .un, .un]) rfl ?_ rfl)
  simp! only [F__law_begun, items_scr, e1, e2, e3]
theorem okR_5 : okR 5 = true := by decide
theorem min_i (i j : Int) : biD .min [.int i, .int j] = some (.int (if j < i then j else i)) := rfl
set_option linter.all false
set_option maxRecDepth 100000
set_option maxHeartbeats 8000000
/-! k08: the law -/
abbrev T0 : S := .set 1 (.call i__law_begun [(.v (.var 0))])
abbrev T1 : S := .set 2 (.lst [(.lit .non), (.lit (.int (0))), (.neg (.lit (.int (7)))), (.lit (.str "x")), (.lit (.str "")), (.tup [(.lit (.int (1))), (.lit (.int (2)))]), (.lst [(.lit (.int (3)))]), (.dic ["a"] [(.lit (.int (4)))]), (.lit (.bl true)), (.bin .pow (.lit (.int (10))) (.lit (.int (20))))])
abbrev T2 : S := .par [3, 4] [(.call i__law_pick [(.io 1), (.v (.var 2))]), (.call i__law_pick [(.io 1), (.v (.var 2))])]
abbrev T3 : S := .set 5 (.call i__law_told_errors [(.v (.var 3)), (.v (.var 4))])
abbrev T4 : S := .set 6 (.bin .add (.call i__law_plain_errors []) (.lc (.name 12) (.of (.var 5)) [] (.idx (.var 12) (.lit (.int (0)))) [11, 12]))
abbrev T5 : S := .set 8 (.lc (.name 7) (.of (.var 6)) [] (.call i__law_classes [(.v (.var 7))]) [11, 7])
abbrev T6 : S := .iff (.or (.cmp .ne (.lc (.name 13) (.of (.var 8)) [(.cmp .ne (.bi .len [(.var 13)]) (.lit (.int (1))))] (.lit (.int (1))) [11, 13]) (.lst [])) (.cmp .ne (.lns (.lc (.name 13) (.of (.var 8)) [] (.idx (.var 13) (.lit (.int (0)))) [11, 13])) (.bi .len [(.var 6)]))) [
      .ret (.lit (.bl false))] []
abbrev T7 : S := .for_ (.tup [(.name 7), (.name 9), (.name 10)]) (.of (.var 5)) [
      .iff (.cmp .ne (.bi .repr [(.var 9)]) (.bi .repr [(.var 10)])) [
        .ret (.lit (.bl false))] []]
abbrev T8 : S := .for_ (.name 7) (.of (.var 6)) [
      .iff (.or (.not (.isc (.var 7) c_FormError)) (.not (.isv (.var 7)))) [
        .ret (.lit (.bl false))] []]
abbrev T9 : S := .ret (.lit (.bl true))
theorem law_body : F_law.body = [T0, T1, T2, T3, T4, T5, T6, T7, T8, T9] := rfl
def some10 : List D := [.non, .int 0, .int (-7), .str "x", .str "", .tup [.int 1, .int 2], .lst [.int 3], .dic [.s "a"] [.int 4], .bl true, .int 100000000000000000000]
def plainE : List D := (.exc c_BadAnswers [] [] :: .exc c_BadBook [] [] :: .exc c_BadCells [] [] :: .exc c_BadCount [] [] :: .exc c_BadDeeds [] [] :: .exc c_BadEnding [] [] :: .exc c_BadExpression [] [] :: .exc c_BadForm [] [] :: .exc c_BadGoal [] [] :: .exc c_BadHeads [] [] :: .exc c_BadInputs [] [] :: .exc c_BadKind [] [] :: .exc c_BadKinds [] [] :: .exc c_BadKnot [] [] :: .exc c_BadLine [] [] :: .exc c_BadLot [] [] :: .exc c_BadMany [] [] :: .exc c_BadMost [] [] :: .exc c_BadName [] [] :: .exc c_BadNames [] [] :: .exc c_BadNotation [] [] :: .exc c_BadParts [] [] :: .exc c_BadPath [] [] :: .exc c_BadPaths [] [] :: .exc c_BadPlace [] [] :: .exc c_BadPlain [] [] :: .exc c_BadRow [] [] :: .exc c_BadScheme [] [] :: .exc c_BadSheet [] [] :: .exc c_BadSheets [] [] :: .exc c_BadSignature [] [] :: .exc c_BadTree [] [] :: .exc c_BadUse [] [] :: .exc c_BadWish [] [] :: .exc c_BadWorth [] [] :: .exc c_BadWriting [] [] :: .exc c_NoPlain [] [] :: .exc c_NoRows [] [] :: .exc c_NotAlike [] [] :: .exc c_NotSame [] [] :: .exc c_NothingDone [] [] :: .exc c_NothingUndone [] [] :: .exc c_OtherPlaces [] [] :: [])
def toldE (a b : D) : List D := [.exc c_BadText ["at", "wanted"] [a, b], .exc c_NoRule ["place"] [a], .exc c_NotClear ["spot"] [a], .exc c_NotWritten ["name"] [a], .exc c_TooMany ["most"] [a]]
def toldT (a b : D) : List D := [.tup [.exc c_BadText ["at", "wanted"] [a, b], .lst [a, b], .lst [a, b]], .tup [.exc c_NoRule ["place"] [a], .lst [a], .lst [a]], .tup [.exc c_NotClear ["spot"] [a], .lst [a], .lst [a]], .tup [.exc c_NotWritten ["name"] [a], .lst [a], .lst [a]], .tup [.exc c_TooMany ["most"] [a], .lst [a], .lst [a]]]
def clsL : List D := (.lst [.int 0] :: .lst [.int 1] :: .lst [.int 2] :: .lst [.int 3] :: .lst [.int 4] :: .lst [.int 5] :: .lst [.int 6] :: .lst [.int 7] :: .lst [.int 8] :: .lst [.int 9] :: .lst [.int 10] :: .lst [.int 11] :: .lst [.int 12] :: .lst [.int 13] :: .lst [.int 14] :: .lst [.int 15] :: .lst [.int 16] :: .lst [.int 17] :: .lst [.int 18] :: .lst [.int 19] :: .lst [.int 20] :: .lst [.int 21] :: .lst [.int 22] :: .lst [.int 23] :: .lst [.int 24] :: .lst [.int 25] :: .lst [.int 26] :: .lst [.int 27] :: .lst [.int 28] :: .lst [.int 29] :: .lst [.int 30] :: .lst [.int 32] :: .lst [.int 33] :: .lst [.int 34] :: .lst [.int 35] :: .lst [.int 36] :: .lst [.int 37] :: .lst [.int 38] :: .lst [.int 40] :: .lst [.int 42] :: .lst [.int 44] :: .lst [.int 45] :: .lst [.int 46] :: .lst [.int 31] :: .lst [.int 39] :: .lst [.int 41] :: .lst [.int 43] :: .lst [.int 47] :: [])
section
variable {N : Nat} {a b : D}
theorem plain_ok : evalN Pk 99 i__law_plain_errors [] = some ⟨.ok (.val (.lst plainE)), []⟩ := by kernel_rfl
theorem told_ok : evalN Pk 99 i__law_told_errors [.v a, .v b] = some ⟨.ok (.val (.lst (toldT a b))), []⟩ := by kernel_rfl
abbrev E3 (ns : List Int) (s : Drw) (a b : D) : Env := [.val (.scr ns), .own (.drw s) false, .val (.lst some10), .val a, .val b, .un, .un, .un, .un, .un, .un, .un, .un, .un]
abbrev E4 (ns : List Int) (s : Drw) (a b : D) : Env := [.val (.scr ns), .own (.drw s) false, .val (.lst some10), .val a, .val b, .val (.lst (toldT a b)), .un, .un, .un, .un, .un, .un, .un, .un]
abbrev E5 (ns : List Int) (s : Drw) (a b : D) : Env := [.val (.scr ns), .own (.drw s) false, .val (.lst some10), .val a, .val b, .val (.lst (toldT a b)), .own (.lst (plainE ++ toldE a b)) false, .un, .un, .un, .un, .un, .un, .un]
abbrev E6 (ns : List Int) (s : Drw) (a b : D) : Env := [.val (.scr ns), .own (.drw s) false, .val (.lst some10), .val a, .val b, .val (.lst (toldT a b)), .val (.lst (plainE ++ toldE a b)), .un, .own (.lst clsL) false, .un, .un, .un, .un, .un]
abbrev E7 (ns : List Int) (s : Drw) (a b : D) (x7 x9 x10 : Slot) : Env := [.val (.scr ns), .own (.drw s) false, .val (.lst some10), .val a, .val b, .val (.lst (toldT a b)), .val (.lst (plainE ++ toldE a b)), x7, .val (.lst clsL), x9, x10, .un, .un, .un]
theorem t3_ok (ns : List Int) (s : Drw) : denS (cf Pk 99) T3 (E3 ns s a b) = some (.ok .nx, E4 ns s a b) := by kernel_rfl
theorem t4_ok (ns : List Int) (s : Drw) : denS (cf Pk 99) T4 (E4 ns s a b) = some (.ok .nx, E5 ns s a b) := by kernel_rfl
theorem t5_ok (ns : List Int) (s : Drw) : denS (cf Pk 99) T5 (E5 ns s a b) = some (.ok .nx, E6 ns s a b) := by kernel_rfl
theorem t6_ok (ns : List Int) (s : Drw) : denS (cf Pk 99) T6 (E6 ns s a b) = some (.ok .nx, E7 ns s a b .un .un .un) := by kernel_rfl
theorem t8_ok (ns : List Int) (s : Drw) (x7 x9 x10 : D) : denS (cf Pk 99) T8 (E7 ns s a b (.val x7) (.val x9) (.val x10)) = some (.ok .nx, E7 ns s a b (.val (.exc c_TooMany ["most"] [a])) (.val x9) (.val x10)) := by kernel_rfl
theorem ne_same (z : Str) : cmpD .ne (.str z) (.str z) = some false := by
  show (some (z == z)).map (! ·) = some false
  simp
def slot5' (x : Slot) : Prop := x = .un ∨ ∃ d, x = .val d
theorem t7_turn (ns : List Int) (s : Drw) {e x : D} {z : Str} (hz : reprD x = some z) {x7 x9 x10 : Slot} (h7 : slot5' x7) (h9 : slot5' x9) (h10 : slot5' x10) :
    turn (.tup [(.name 7), (.name 9), (.name 10)]) (denSs (cf Pk 99) [.iff (.cmp .ne (.bi .repr [(.var 9)]) (.bi .repr [(.var 10)])) [.ret (.lit (.bl false))] []]) (.tup [e, x, x]) (E7 ns s a b x7 x9 x10) = some (.ok .nx, E7 ns s a b (.val e) (.val x) (.val x)) := by
  have k : biD .repr [x] = some (.str z) := by
    show (reprD x).map D.str = _
    rw [hz]
    rfl
  have k2 := ne_same z
  have k3 : (!z == z) = false := by simp
  unfold turn
  rcases h7 with rfl | ⟨d7, rfl⟩ <;> rcases h9 with rfl | ⟨d9, rfl⟩ <;> rcases h10 with rfl | ⟨d10, rfl⟩ <;> simp! only [k, k2, k3] <;> rfl
theorem t7_ok (ns : List Int) (s : Drw) {z1 z2 : Str} (h1 : reprD (.lst [a, b]) = some z1) (h2 : reprD (.lst [a]) = some z2) : denS (cf Pk 99) T7 (E7 ns s a b .un .un .un) = some (.ok .nx, E7 ns s a b (.val (.exc c_TooMany ["most"] [a])) (.val (.lst [a])) (.val (.lst [a]))) := by
  have i : itemsD (.lst (toldT a b)) = some (toldT a b) := rfl
  have v : ∀ d : D, slot5' (.val d) := fun d => .inr ⟨d, rfl⟩
  have m1 := t7_turn (a := a) (b := b) ns s (e := .exc c_BadText ["at", "wanted"] [a, b]) h1 (x7 := .un) (x9 := .un) (x10 := .un) (.inl rfl) (.inl rfl) (.inl rfl)
  have m2 := t7_turn (a := a) (b := b) ns s (e := .exc c_NoRule ["place"] [a]) h2 (v (.exc c_BadText ["at", "wanted"] [a, b])) (v (.lst [a, b])) (v (.lst [a, b]))
  have m3 := t7_turn (a := a) (b := b) ns s (e := .exc c_NotClear ["spot"] [a]) h2 (v (.exc c_NoRule ["place"] [a])) (v (.lst [a])) (v (.lst [a]))
  have m4 := t7_turn (a := a) (b := b) ns s (e := .exc c_NotWritten ["name"] [a]) h2 (v (.exc c_NotClear ["spot"] [a])) (v (.lst [a])) (v (.lst [a]))
  have m5 := t7_turn (a := a) (b := b) ns s (e := .exc c_TooMany ["most"] [a]) h2 (v (.exc c_NotWritten ["name"] [a])) (v (.lst [a])) (v (.lst [a]))
  have e0 : denS (cf Pk 99) T7 (E7 ns s a b .un .un .un) = forM (.tup [(.name 7), (.name 9), (.name 10)]) (denSs (cf Pk 99) [.iff (.cmp .ne (.bi .repr [(.var 9)]) (.bi .repr [(.var 10)])) [.ret (.lit (.bl false))] []]) (toldT a b) (E7 ns s a b .un .un .un) := by
    simp! only [T7, i]
  rw [e0]
  unfold toldT at *
  rw [forM_cons, m1, next_nx, forM_cons, m2, next_nx, forM_cons, m3, next_nx, forM_cons, m4, next_nx, forM_cons, m5, next_nx, forM_nil]
end
theorem repr1 : ∀ a ∈ some10, (reprD (.lst [a])).isSome = true := by decide +kernel
theorem repr2 : ∀ a ∈ some10, ∀ b ∈ some10, (reprD (.lst [a, b])).isSome = true := by decide +kernel
theorem law_true (ns : List Int) (hl : ns.length ≤ 63) (hb : ∀ z ∈ ns, PySem.Builtin.Int.intBits z ≤ 1048576) : evalN Pk 100 i_law [.v (.scr ns)] = some ⟨.ok (.val (.bl true)), []⟩ := by
  obtain ⟨s, e1, g⟩ := law_begun_ok (N := 99) (by decide) hl
  obtain ⟨a, s1, ma, ea, g1⟩ := pick_ok (N := 99) (b := 999998) (by decide) (g.mono (by decide)) (xs := some10) (by simp [some10]) (by simp [some10])
  obtain ⟨b, s2, mb, eb, g2⟩ := pick_ok (N := 99) (b := 999997) (by decide) g1 (xs := some10) (by simp [some10]) (by simp [some10])
  obtain ⟨z1, h1⟩ := Option.isSome_iff_exists.mp (repr2 a ma b mb)
  obtain ⟨z2, h2⟩ := Option.isSome_iff_exists.mp (repr1 a ma)
  have p0 : denSs (cf Pk 99) [T0, T1, T2, T3, T4, T5, T6, T7, T8, T9] [.val (.scr ns), .un, .un, .un, .un, .un, .un, .un, .un, .un, .un, .un, .un, .un] = denSs (cf Pk 99) [T3, T4, T5, T6, T7, T8, T9] (E3 ns s2 a b) := by
    have a0 : denS (cf Pk 99) T0 [.val (.scr ns), .un, .un, .un, .un, .un, .un, .un, .un, .un, .un, .un, .un, .un] = some (.ok .nx, [.val (.scr ns), .own (.drw s) false, .un, .un, .un, .un, .un, .un, .un, .un, .un, .un, .un, .un]) := by
      simp! only [T0, e1]
    have a1 : denS (cf Pk 99) T1 [.val (.scr ns), .own (.drw s) false, .un, .un, .un, .un, .un, .un, .un, .un, .un, .un, .un, .un] = some (.ok .nx, [.val (.scr ns), .own (.drw s) false, .own (.lst some10) false, .un, .un, .un, .un, .un, .un, .un, .un, .un, .un, .un]) := by kernel_rfl
    have a2 : denS (cf Pk 99) T2 [.val (.scr ns), .own (.drw s) false, .own (.lst some10) false, .un, .un, .un, .un, .un, .un, .un, .un, .un, .un, .un] = some (.ok .nx, E3 ns s2 a b) := by
      simp! only [T2, ea, eb]
    rw [s_cons, a0, sq_nx, s_cons, a1, sq_nx, s_cons, a2, sq_nx]
  refine evalN_of (fn := F_law) rfl (by decide) (run_rt (os := []) (ρ' := E7 ns s2 a b (.val (.exc c_TooMany ["most"] [a])) (.val (.lst [a])) (.val (.lst [a]))) rfl ?_ rfl)
  show denSs (cf Pk 99) F_law.body [.val (.scr ns), .un, .un, .un, .un, .un, .un, .un, .un, .un, .un, .un, .un, .un] = _
  rw [law_body, p0, s_cons, t3_ok, sq_nx, s_cons, t4_ok, sq_nx, s_cons, t5_ok, sq_nx, s_cons, t6_ok, sq_nx, s_cons, t7_ok ns s2 h1 h2, sq_nx, s_cons, t8_ok, sq_nx]
  kernel_rfl
end Py.Pl
set_option Elab.async false
set_option linter.all false
set_option maxRecDepth 100000
set_option maxHeartbeats 0
open PySem PySem.W PySem.Calls PyProof.Rows
theorem PySem.Challenge.cw_formrules_k08_errors_made_and_bases_holds : PySem.Challenge.rw_formrules_k08_errors_made_and_bases.Holds := by
  w_on; o_law
  refine HandSHeadRun.head_any (r := OpenLaw.row PySem.Challenge.rw_formrules_k08_errors_made_and_bases) (q := view (OpenLaw.row PySem.Challenge.rw_formrules_k08_errors_made_and_bases).prog [Py.Pl.lawAt]) (H := Py.Pl.hk) (ob := Py.Pl.ob) (M := 40000) (loose := Py.Pl.loose) (d := HandSHeadRun.topDef (OpenLaw.row PySem.Challenge.rw_formrules_k08_errors_made_and_bases).prog Py.Pl.lawAt) (kwd := []) Py.Pl.ob_eq
    (by kernel_rfl) (fun s => by kernel_rfl) Py.Pl.run (by kernel_rfl) (by kernel_rfl) (by kernel_rfl) (by rfl) (by first | assumption | decide +kernel) (by decide +kernel) ⟨rfl, rfl, rfl, rfl, rfl, by decide +kernel⟩ ?hw ?hc
  case hw => w_witness2
  case hc =>
    refine Py.walk_G (l := PySem.Challenge.rw_formrules_k08_errors_made_and_bases) (n := 63) (k := 231) (x := "script") rfl (by decide) (by kernel_rfl) ⟨⟨rfl, by decide, by decide⟩, rfl⟩ ?F
    intro w mg fa h Y G hmg0
    obtain ⟨K, KX, c⟩ := Y
    have hmg : mg ("law" : PySem.Str) = some (.ref fa) := by
      have e : (HandSHeadRun.topDef (OpenLaw.row PySem.Challenge.rw_formrules_k08_errors_made_and_bases).prog Py.Pl.lawAt).name = ("law" : PySem.Str) := by kernel_rfl
      rw [← e]
      exact hmg0
    obtain ⟨fd, hb, hF⟩ := Py.row_ok (T := Py.Pl.ht) (P := (PySem.Challenge.rw_formrules_k08_errors_made_and_bases).prog) (w := w) (by kernel_rfl) (by kernel_rfl) KX G c Py.Pl.ht_check Py.Pl.ht_tr Py.Pl.ht_ler Py.Pl.ht_pos Py.Pl.ht_kw Py.Pl.ht_kp
    have e := hmg.symm.trans (Py.glo_at KX G (He.SaysT.d c.t) (i := Py.Pl.i_law) (x := "law") (by
      have : ("law" : PySem.Str) ∈ Py.Pl.ht.t.fns.map (·.1) := by decide +kernel
      simp only [Py.HTab.fa, List.mem_append]
      obtain ⟨p, hp, q⟩ := List.mem_map.mp this
      exact .inl (List.mem_map.mpr ⟨p, hp, by rw [q]⟩)) (by kernel_rfl))
    cases e
    refine ⟨K, fd Py.Pl.i_law, ⟨Py.clsAt K Py.Pl.ht.cn, Py.Pl.ht.nmT K⟩, Py.Pl.ht.tf.map (He.cT K), Py.evalN Py.Pl.ht.p.prog 100 Py.Pl.i_law, KX, ?emp, ?out, ?hd, ?sub, fun s u => hb Py.Pl.i_law _ rfl s [u] rfl, fun ns hl hbits => Py.Pl.law_true ns hl hbits, fun base _ _ hT => ?fin⟩
    case emp =>
      intro p hp
      obtain ⟨q, hq, rfl⟩ := List.mem_map.mp hp
      exact c.empty q hq
    case out =>
      intro p hp
      obtain ⟨q, hq, rfl⟩ := List.mem_map.mp hp
      exact c.out q hq
    case hd =>
      intro p hp
      obtain ⟨q, hq, rfl⟩ := List.mem_map.mp hp
      exact PySem.W.codeHd_of_K KX (c.hd q hq)
    case sub =>
      intro p hp
      obtain ⟨l, hl, rfl⟩ := List.mem_map.mp hp
      refine ⟨_, List.mem_map.mpr ⟨_, List.mem_map.mpr ⟨l, hl, rfl⟩, rfl⟩⟩
    case fin =>
      refine Py.FnG.mono (hF base hT 100 Py.Pl.i_law) ?_
      decide
