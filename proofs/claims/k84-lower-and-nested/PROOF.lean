import PyProof.Rows.All
import Wide.All
import OpenK.AllK
import Wide.FinOn
import HandS.ForMost
import HandS.Wide
import HandS.TupAny
import HandS.IsInst
import HandS.SortInts
import HandS.Defaults
import HandS.Zip
import HandS.Walk
import HandS.Flow
import HandS.Style
import HandS.Conv
import HandS.Codes
import KE.GoesMore
import HandS.EndTab
import HandS.EndBits
import KE.KNest
import HandS.Comp
import HandS.AnyAll
import PySem.Challenge.RW_seldomfalse_k84_lower_and_nested
set_option Elab.async false
set_option maxRecDepth 100000
set_option linter.all false
section
/-! SfEv: an evaluator for the part of Python that the laws use, over plain data. Core Lean alone. -/
namespace Sf

/-- a value: lists, dicts that a def owns bear true -/
inductive D where
  | non
  | bl (b : Bool)
  | int (i : Int)
  | str (x : List Nat)
  | tup (xs : List D)
  | lst (o : Bool) (xs : List D)
  | dic (o : Bool) (ks vs : List D)
  | scr (xs : List D)
  deriving Inhabited

/-- the greatest length of a list -/
abbrev SZ : Nat := 16777216

namespace D
/-- nothing owned -/
def isZ : D → Bool
  | .lst true _ => false
  | .dic true _ _ => false
  | _ => true
/-- what was owned is given free: from now on it stands still -/
def frz : D → D
  | .lst _ xs => .lst false xs
  | .dic _ ks vs => .dic false ks vs
  | d => d
mutual
def eqv : D → D → Bool
  | .non, .non => true
  | .bl a, .bl b => a == b
  | .bl a, .int j => (if a then 1 else 0) == j
  | .int i, .bl b => i == (if b then 1 else 0)
  | .int i, .int j => i == j
  | .str x, .str y => x == y
  | .lst _ xs, .lst _ ys => eqvs xs ys
  | .tup xs, .tup ys => eqvs xs ys
  | _, _ => false
def eqvs : List D → List D → Bool
  | [], [] => true
  | x :: xs, y :: ys => eqv x y && eqvs xs ys
  | _, _ => false
end
mutual
/-- at most so deep, the texts of plain signs, no dict within -/
def shp : Nat → D → Bool
  | _, .non => true
  | _, .bl _ => true
  | _, .int _ => true
  | _, .str x => x.all fun c => decide (c < 55296)
  | n + 1, .tup xs => shps n xs
  | n + 1, .lst _ xs => shps n xs
  | _, _ => false
def shps : Nat → List D → Bool
  | _, [] => true
  | n, x :: xs => shp n x && shps n xs
end
def flat : D → Bool
  | .non => true
  | .bl _ => true
  | .int _ => true
  | .str _ => true
  | _ => false
/-- a dict's key: a tuple of ints and texts -/
def keyOk : D → Bool
  | .tup xs => xs.all fun d => match d with | .int _ => true | .str _ => true | _ => false
  | _ => false
/-- flat ones that are no bool beside an int -/
def scal : D → D → Bool
  | .bl _, .int _ => false
  | .int _, .bl _ => false
  | x, y => flat x && flat y
def eqOk (x y : D) : Bool := scal x y || (shp 60 x && shp 60 y)
end D

abbrev Env := List (Option D)
/-- what an expression's run gives -/
inductive Out (α : Type) where
  | ok (a : α) (r : Env)
  | exn (c : Nat) (xs : List D) (r : Env)
  | bad
/-- what a statement's run gives -/
inductive Res where
  | nx (r : Env)
  | rt (d : D) (r : Env)
  | bk (r : Env)
  | ct (r : Env)
  | exn (c : Nat) (xs : List D) (r : Env)
  | bad

def Out.bnd {α β : Type} : Out α → (α → Env → Out β) → Out β
  | .ok a r, f => f a r
  | .exn c xs r, _ => .exn c xs r
  | .bad, _ => .bad
def Out.lift {α : Type} (o : Option α) (r : Env) : Out α := match o with
  | some a => .ok a r
  | none => .bad
def Out.fin {α : Type} : Out α → (α → Env → Res) → Res
  | .ok a r, f => f a r
  | .exn c xs r, _ => .exn c xs r
  | .bad, _ => .bad

inductive BOp where
  | add | sub | mul | fdiv | mod | pow
  deriving DecidableEq
inductive COp where
  | eq | ne | lt | le | gt | ge | is | isnt | isin | notin
  deriving DecidableEq
inductive Bi where
  | len | abs | int | list | tuple | sorted | str
  deriving DecidableEq
inductive Bi2 where
  | max | min
  deriving DecidableEq
inductive Ty where
  | int | bool | str | tuple | list
  deriving DecidableEq
/-- a target: a name, names in a tuple -/
inductive T where
  | nm (i : Nat)
  | tp (is : List Nat)
  deriving DecidableEq

inductive E where
  | bad
  | var (i : Nat)
  | cint (i : Int) | cbl (b : Bool) | cnon | cstr (x : List Nat)
  | bin (op : BOp) (a b : E)
  | neg (a : E)
  | cmp (op : COp) (a b : E)
  | chn (op op' : COp) (a b c : E)
  | not (a : E) | and (a b : E) | or (a b : E)
  | ifx (c a b : E)
  | one (a : E)
  | tup (es : List E) | lst (es : List E) | dic0
  | sub (a i : E)
  | slc (a : E) (lo hi : Option E)
  | call (f : Nat) (es : List E) (pm : List Nat)
  | bi (b : Bi) (a : E)
  | bi2 (b : Bi2) (a c : E)
  | isi (a : E) (t : Ty)
  | comp (elt : E) (tg : T) (it : E) (cs : List E) (own : List Nat)
  | anyA (al : Bool) (i : Nat) (it : E)
  | lrng (a : E)
  | rng1 (a : E) | rng2 (a b : E) | rng3 (a b c : E)
  | enm (a : E) | zip (a b : E)
  | pop0 (i : Nat) | pop1 (i : Nat) (e : E)
  | index (a b : E)

inductive S where
  | bad
  | asg (i : Nat) (e : E)
  | asgT (is : List Nat) (e : E)
  | par (is : List Nat) (es : List E)
  | aug (i : Nat) (op : BOp) (e : E)
  | setx (i : Nat) (k e : E)
  | app (i : Nat) (e : E)
  | expr (e : E)
  | ret (e : E) | retN
  | ite (c : E) (a b : List S)
  | whl (c : E) (b : List S)
  | for_ (tg : T) (it : E) (b : List S)
  | brk | cnt | pass

/-! ### values -/
def mulOk (i j : Int) : Bool := (decide (-(2 ^ 64) < i) && decide (i < 2 ^ 64)) || (decide (-(2 ^ 64) < j) && decide (j < 2 ^ 64)) || decide (i.natAbs.log2 + j.natAbs.log2 < 1000000)
def divOk (j : Int) : Bool := decide (0 < j) && decide (j.natAbs.log2 < 9000)
def binop : BOp → D → D → Option D
  | .add, .int i, .int j => some (.int (i + j))
  | .add, .str x, .str y => if x.length + y.length ≤ SZ then some (.str (x ++ y)) else none
  | .add, .tup x, .tup y => if x.length + y.length ≤ SZ then some (.tup (x ++ y)) else none
  | .add, .lst false x, .lst false y => if x.length + y.length ≤ SZ then some (.lst true (x ++ y)) else none
  | .sub, .int i, .int j => some (.int (i - j))
  | .mul, .int i, .int j => if mulOk i j then some (.int (i * j)) else none
  | .mul, .lst false x, .int k => if k < 2 ^ 40 ∧ -(2 ^ 40) < k ∧ x.length * k.toNat ≤ SZ then some (.lst true (List.replicate k.toNat x).flatten) else none
  | .fdiv, .int i, .int j => if divOk j then some (.int (i / j)) else none
  | .mod, .int i, .int j => if 0 < j then some (.int (i % j)) else none
  | .pow, .int i, .int j => if 0 ≤ j ∧ j ≤ 1000000 ∧ i.natAbs < 2 ^ 64 then some (.int (i ^ j.toNat)) else none
  | _, _, _ => none
def hasD (x : D) (xs : List D) : Bool := xs.any fun y => D.eqv y x
def cmpop : COp → D → D → Option Bool
  | .eq, x, y => if D.eqOk x y then some (D.eqv x y) else none
  | .ne, x, y => if D.eqOk x y then some (!D.eqv x y) else none
  | .lt, .int i, .int j => some (decide (i < j))
  | .le, .int i, .int j => some (decide (i ≤ j))
  | .gt, .int i, .int j => some (decide (j < i))
  | .ge, .int i, .int j => some (decide (j ≤ i))
  | .is, x, .non => some (match x with | .non => true | _ => false)
  | .isnt, x, .non => some (match x with | .non => false | _ => true)
  | .isin, x, .tup xs => if x.flat && xs.all D.flat then some (hasD x xs) else none
  | .isin, x, .lst _ xs => if x.flat && xs.all D.flat then some (hasD x xs) else none
  | .notin, x, .tup xs => if x.flat && xs.all D.flat then some (!hasD x xs) else none
  | .notin, x, .lst _ xs => if x.flat && xs.all D.flat then some (!hasD x xs) else none
  | .isin, x, .dic _ ks _ => if x.keyOk then some (hasD x ks) else none
  | .notin, x, .dic _ ks _ => if x.keyOk then some (!hasD x ks) else none
  | _, _, _ => none
/-- name op= value -/
def augop : BOp → D → D → Option D
  | .add, .int i, .int j => some (.int (i + j))
  | .add, .str x, .str y => if x.length + y.length ≤ SZ then some (.str (x ++ y)) else none
  | .sub, .int i, .int j => some (.int (i - j))
  | .mod, .int i, .int j => if 0 < j then some (.int (i % j)) else none
  | _, _, _ => none
/-- the place that an index means -/
def ixq (n : Nat) (i : Int) : Option Nat := if 0 ≤ i then (if i < n then some i.toNat else none) else if -(n : Int) ≤ i then some (i + n).toNat else none
def atq {α : Type} (xs : List α) (i : Int) : Option α := (ixq xs.length i).bind fun j => xs[j]?
def idx : D → D → Option D
  | .tup xs, .int i => atq xs i
  | .lst _ xs, .int i => atq xs i
  | _, _ => none
/-- a slice's bound: d where it is left out -/
def six (n d : Nat) (x : Option Int) : Nat := match x with
  | none => d
  | some i => if i < 0 then (i + n).toNat else min i.toNat n
def cut {α : Type} (xs : List α) (lo hi : Option Int) : List α := (xs.drop (six xs.length 0 lo)).take (six xs.length xs.length hi - six xs.length 0 lo)
def slq : D → Option Int → Option Int → Option D
  | .tup xs, lo, hi => some (.tup (cut xs lo hi))
  | .lst _ xs, lo, hi => some (.lst true (cut xs lo hi))
  | .str xs, lo, hi => if xs.length ≤ SZ then some (.str (cut xs lo hi)) else none
  | _, _, _ => none
def asInt : D → Option Int
  | .int i => some i
  | _ => none
def tru : D → Option Bool
  | .non => some false
  | .bl b => some b
  | .int i => some (i != 0)
  | .tup xs => some !xs.isEmpty
  | .lst _ xs => some !xs.isEmpty
  | _ => none
def insI (i : Int) : List Int → List Int
  | [] => [i]
  | j :: js => if i ≤ j then i :: j :: js else j :: insI i js
def sortI (xs : List Int) : List Int := xs.foldr insI []
def intsOf : List D → Option (List Int)
  | [] => some []
  | .int i :: ds => (intsOf ds).map (i :: ·)
  | _ :: _ => none
def digs (i : Int) : List Nat := (toString i).toList.map Char.toNat
def bltf : Bi → D → Option D
  | .len, .tup xs => some (.int xs.length)
  | .len, .lst _ xs => some (.int xs.length)
  | .len, .scr xs => some (.int xs.length)
  | .len, .str xs => if xs.length ≤ SZ then some (.int xs.length) else none
  | .abs, .int i => some (.int (if i < 0 then -i else i))
  | .int, .int i => some (.int i)
  | .int, .bl b => some (.int (if b then 1 else 0))
  | .list, .tup xs => some (.lst true xs)
  | .list, .lst _ xs => some (.lst true xs)
  | .list, .scr xs => some (.lst true xs)
  | .tuple, .tup xs => some (.tup xs)
  | .tuple, .lst _ xs => some (.tup xs)
  | .sorted, .lst _ xs => (intsOf xs).map fun is => .lst true ((sortI is).map .int)
  | .str, .int i => if i.natAbs.log2 < 1920 then some (.str (digs i)) else none
  | _, _ => none
def bltg : Bi2 → D → D → Option D
  | .max, .int i, .int j => some (.int (if j > i then j else i))
  | .min, .int i, .int j => some (.int (if j < i then j else i))
  | _, _, _ => none
def isiq : D → Ty → Option Bool
  | .non, _ => some false
  | .bl _, .bool => some true
  | .bl _, .int => some true
  | .bl _, _ => some false
  | .int _, t => some (t == .int)
  | .str _, t => some (t == .str)
  | .tup _, t => some (t == .tuple)
  | .lst _ _, t => some (t == .list)
  | _, _ => none
def enumq (n : Nat) : List D → List D
  | [] => []
  | x :: xs => .tup [.int n, x] :: enumq (n + 1) xs
def zipq : List D → List D → List D
  | x :: xs, y :: ys => .tup [x, y] :: zipq xs ys
  | _, _ => []
def rngq (lo c : Int) (n : Nat) : List D := (List.range n).map fun k => .int (lo + (k : Nat) * c)
def small (i : Int) : Bool := decide (-(2 ^ 40) < i) && decide (i < 2 ^ 40)
def rng2q (lo hi : Int) : Option (List D) := if small lo && small hi && decide ((hi - lo).toNat ≤ SZ) then some (rngq lo 1 (hi - lo).toNat) else none
def rng3q (lo hi c : Int) : Option (List D) := if small lo && small hi && decide (c = -1) && decide ((lo - hi).toNat ≤ SZ) then some (rngq lo (-1) (lo - hi).toNat) else none
/-- what is walked -/
def iteq : D → Option (List D)
  | .tup xs => some xs
  | .lst false xs => some xs
  | .str xs => if xs.length ≤ SZ then some (xs.map fun c => .str [c]) else none
  | _ => none
def itemsq : D → Option (List D)
  | .tup xs => some xs
  | .lst false xs => some xs
  | _ => none
def itemsp : D → D → Option (List D × List D)
  | .tup xs, .tup ys => some (xs, ys)
  | .lst false xs, .lst false ys => some (xs, ys)
  | _, _ => none
/-- d[k] = v on the two lists of a dict -/
def putq (k v : D) (ks vs : List D) : List D × List D :=
  if hasD k ks then (ks, List.zipWith (fun k' v' => if D.eqv k' k then v else v') ks vs) else (ks ++ [k], vs ++ [v])
def peek (r : Env) (i : Nat) : Option D := (r[i]?).join
/-- slot i takes d -/
def putE (r : Env) (i : Nat) (d : D) : Env := r.set i (some d)
def wipeE (r : Env) : List Nat → Env
  | [] => r
  | v :: vs => (wipeE r vs).set v none
/-- the slots vs as they stood in r0 -/
def backE (r0 r : Env) : List Nat → Env
  | [] => r
  | v :: vs => (backE r0 r vs).set v ((r0[v]?).join)
def ownZ (r : Env) (vs : List Nat) : Bool := vs.all fun v => match (r[v]?).join with | some d => d.isZ | none => true
/-- names that take the items of a tuple -/
def putsE : Env → List Nat → List D → Option Env
  | r, [], [] => some r
  | r, i :: is, d :: ds => putsE (putE r i d) is ds
  | _, _, _ => none
def bindT (r : Env) : T → D → Option Env
  | .nm i, d => some (putE r i d)
  | .tp is, .tup ds => putsE r is ds
  | _, _ => none

/-- a def: how many parameters, how many names, which parameters its callers' variables stand for -/
structure Fn where
  np : Nat
  nn : Nat
  io : Option Nat
  body : List S
abbrev Calls := Nat → List D → Out D

/-- a comprehension's turns -/
def compL (own : List Nat) (f : D → Env → Out (Option D)) : List D → Env → Out (List D)
  | [], r => .ok [] r
  | x :: xs, r => (f x (wipeE r own)).bnd fun o r => (compL own f xs r).bnd fun ys r => .ok (o.toList ++ ys) r
def picks (ys : List D) : List D → Option (List Bool)
  | [] => some []
  | .int k :: xs => if 0 ≤ k ∧ k < 2 ^ 40 then (match ys[k.toNat]? with
    | some (.bl b) => (picks ys xs).map (b :: ·)
    | _ => none) else none
  | _ => none
/-- what the list has at the tuple's places: truths -/
def pickB : Option D → D → Option (List Bool)
  | some (.lst _ ys), .tup xs => picks ys xs
  | _, _ => none
def forL (f : D → Env → Res) : List D → Env → Res
  | [], r => .nx r
  | x :: xs, r => match f x r with
    | .nx r => forL f xs r
    | .ct r => forL f xs r
    | .bk r => .nx r
    | o => o
def whL (c : Env → Out Bool) (f : Env → Res) : Nat → Env → Res
  | 0, _ => .bad
  | n + 1, r => (c r).fin fun b r => if b then (match f r with
      | .nx r => whL c f n r
      | .ct r => whL c f n r
      | .bk r => .nx r
      | o => o) else .nx r
/-- how many turns a while may have -/
def WH : Nat := 100000

/-- which parameter of a def is a variable of its callers -/
abbrev Sig := Nat → Option Nat
/-- the variable that an argument names -/
def E.slot? : E → Option Nat
  | .var i => some i
  | _ => none
/-- nothing happens in it -/
def E.simple : E → Bool
  | .var _ => true
  | .cint _ => true
  | .cbl _ => true
  | .cnon => true
  | .cstr _ => true
  | _ => false
/-- the variable that stands at the place io -/
def ioSlot (io : Option Nat) (es : List E) : Option Nat := io.bind fun j => (es[j]?).bind E.slot?
/-- the callers' variable takes what the def made of it -/
def giveBack (io : Option Nat) (es : List E) (fin : Env) (r : Env) : Env := match io with
  | none => r
  | some j => match (es[j]?).bind E.slot? with
    | some s => r.set s ((fin[j]?).join)
    | none => r
/-- the arguments' values, that of the callers' variable as it stands behind all -/
def callArgs (io : Option Nat) (es : List E) (r : Env) (ds : List D) : Option (List D) := match io with
  | none => some ds
  | some j => ((es[j]?).bind E.slot?).bind fun s => (peek r s).map fun d => ds.set j d
def permL (ds : List D) : List Nat → Option (List D)
  | [] => some []
  | j :: js => (ds[j]?).bind fun d => (permL ds js).map (d :: ·)
def perm (io : Option Nat) (pm : List Nat) (ds : List D) : Option (List D) := if pm.isEmpty then some ds else if io.isNone then permL ds pm else none

/-- an expression's runs: its value, its truth, what it gives when it is walked -/
structure Md where
  v : Env → Out D
  t : Env → Out Bool
  i : Env → Out (List D)
/-- looked at only: a variable stays as it is; what is made is given free -/
def Md.p (m : Md) (s : Option Nat) (r : Env) : Out D := match s with
  | some i => .lift (peek r i) r
  | none => (m.v r).bnd fun d r => .ok d.frz r
/-- given free at once -/
def Md.z (m : Md) (r : Env) : Out D := (m.v r).bnd fun d r => .ok d.frz r
def evs : List Md → Env → Out (List D)
  | [], r => .ok [] r
  | m :: ms, r => (m.v r).bnd fun d r => (evs ms r).bnd fun ds r => .ok (d :: ds) r
def evz : List Md → Env → Out (List D)
  | [], r => .ok [] r
  | m :: ms, r => (m.z r).bnd fun d r => (evz ms r).bnd fun ds r => .ok (d :: ds) r
/-- a name that has a value -/
def has (i : Nat) (r : Env) : Out D := .lift (peek r i) r
def hasL (i : Nat) (r : Env) : Out D := match peek r i with
  | some (.lst o xs) => .ok (.lst o xs) r
  | _ => .bad
/-- arguments; that at the place io is not looked at here -/
def evc (io : Option Nat) : Nat → List E → List Md → Env → Out (List D)
  | n, e :: es, m :: ms, r => (if io = some n then .lift (e.slot?.bind (peek r)) r else m.z r).bnd fun d r => (evc io (n + 1) es ms r).bnd fun ds r => .ok (d :: ds) r
  | _, _, _, r => .ok [] r
def evo : Option Md → Env → Out (Option Int)
  | none, r => .ok none r
  | some m, r => (m.v r).bnd fun d r => .lift ((asInt d).map some) r
def evts : List Md → Env → Out Bool
  | [], r => .ok true r
  | m :: ms, r => (m.t r).bnd fun b r => if b then evts ms r else .ok false r
/-- a plain one -/
def Md.mk' (v : Env → Out D) : Md := ⟨v, fun r => (v r).bnd fun d r => .lift (tru d) r, fun r => (v r).bnd fun x r => .lift (iteq x.frz) r⟩
def Md.it (i : Env → Out (List D)) : Md := ⟨fun _ => .bad, fun _ => .bad, i⟩
def varV (i : Nat) (r : Env) : Out D := match peek r i with
  | some d => if d.isZ then .ok d r else .ok d.frz (putE r i d.frz)
  | none => .bad

section
variable (sig : Sig) (C : Calls)
mutual
def ev3 : E → Md
  | .bad => .mk' fun _ => .bad
  | .var i => ⟨varV i, fun r => .lift ((peek r i).bind tru) r, fun r => (varV i r).bnd fun x r => .lift (iteq x.frz) r⟩
  | .cint i => .mk' fun r => .ok (.int i) r
  | .cbl b => .mk' fun r => .ok (.bl b) r
  | .cnon => .mk' fun r => .ok .non r
  | .cstr x => .mk' fun r => .ok (.str x) r
  | .bin op a b => .mk' fun r => ((ev3 a).z r).bnd fun x r => ((ev3 b).z r).bnd fun y r => .lift (binop op x y) r
  | .neg a => .mk' fun r => ((ev3 a).v r).bnd fun x r => .lift ((asInt x).map fun i => .int (-i)) r
  | .cmp op a b => .mk' fun r => ((ev3 a).p (if b.simple then a.slot? else none) r).bnd fun x r => ((ev3 b).p b.slot? r).bnd fun y r => .lift ((cmpop op x y).map .bl) r
  | .chn op op' a b c => .mk' fun r => ((ev3 a).z r).bnd fun x r => ((ev3 b).z r).bnd fun y r => match cmpop op x y with
    | some true => ((ev3 c).z r).bnd fun z r => .lift ((cmpop op' y z).map .bl) r
    | some false => .ok (.bl false) r
    | none => .bad
  | .not a => ⟨fun r => ((ev3 a).p a.slot? r).bnd fun x r => .lift ((tru x).map fun b => .bl !b) r, fun r => ((ev3 a).t r).bnd fun b r => .ok (!b) r, fun _ => .bad⟩
  | .and a b => ⟨fun r => ((ev3 a).v r).bnd fun x r => match x with
      | .bl true => (ev3 b).v r
      | .bl false => .ok (.bl false) r
      | _ => .bad, fun r => ((ev3 a).t r).bnd fun c r => if c then (ev3 b).t r else .ok false r, fun _ => .bad⟩
  | .or a b => ⟨fun r => ((ev3 a).v r).bnd fun x r => match x with
      | .bl true => .ok (.bl true) r
      | .bl false => (ev3 b).v r
      | _ => .bad, fun r => ((ev3 a).t r).bnd fun c r => if c then .ok true r else (ev3 b).t r, fun _ => .bad⟩
  | .one a => ⟨(ev3 a).v, (ev3 a).t, fun _ => .bad⟩
  | .ifx c a b => ⟨fun r => ((ev3 c).t r).bnd fun t r => if t then (ev3 a).v r else (ev3 b).v r,
      fun r => ((ev3 c).t r).bnd fun t r => if t then (ev3 a).t r else (ev3 b).t r,
      fun r => (((ev3 c).t r).bnd fun t r => if t then (ev3 a).v r else (ev3 b).v r).bnd fun x r => .lift (iteq x.frz) r⟩
  | .tup es => .mk' fun r => (evz (ev3s es) r).bnd fun ds r => .lift (if ds.length ≤ SZ then some (.tup ds) else none) r
  | .lst es => .mk' fun r => (evz (ev3s es) r).bnd fun ds r => .lift (if ds.length ≤ SZ then some (.lst true ds) else none) r
  | .dic0 => .mk' fun r => .ok (.dic true [] []) r
  | .sub a i => .mk' fun r => match a.slot? with
    | some s => (has s r).bnd fun _ r => ((ev3 i).z r).bnd fun y r => .lift ((peek r s).bind fun x => idx x y) r
    | none => ((ev3 a).z r).bnd fun x r => ((ev3 i).z r).bnd fun y r => .lift (idx x y) r
  | .slc a lo hi => .mk' fun r => match a.slot? with
    | some s => (has s r).bnd fun _ r => (evo (ev3o lo) r).bnd fun l r => (evo (ev3o hi) r).bnd fun h r => .lift ((peek r s).bind fun x => slq x l h) r
    | none => ((ev3 a).z r).bnd fun x r => (evo (ev3o lo) r).bnd fun l r => (evo (ev3o hi) r).bnd fun h r => .lift (slq x l h) r
  | .call f es pm => .mk' fun r => (evc (sig f) 0 es (ev3s es) r).bnd fun ds r =>
      match (callArgs (sig f) es r ds).bind (perm (sig f) pm) with
      | some ds => (C f ds).bnd fun d fin => .ok d (giveBack (sig f) es fin r)
      | none => .bad
  | .bi b a => .mk' fun r => ((ev3 a).p a.slot? r).bnd fun x r => .lift (bltf b x) r
  | .bi2 b a c => .mk' fun r => ((ev3 a).z r).bnd fun x r => ((ev3 c).z r).bnd fun y r => .lift (bltg b x y) r
  | .isi a t => .mk' fun r => ((ev3 a).z r).bnd fun x r => .lift ((isiq x t).map .bl) r
  | .comp elt tg it cs own => .mk' fun r => ((ev3 it).i r).bnd fun xs r0 => if ownZ r0 own then
      (compL own (fun x r => match bindT r tg x with
        | some r => (evts (ev3s cs) r).bnd fun b r => if b then ((ev3 elt).z r).bnd fun d r => .ok (some d) r else .ok none r
        | none => .bad) xs r0).bnd fun ys r => .ok (.lst true ys) (backE r0 r own) else .bad
  | .anyA al i it => .mk' fun r => ((ev3 it).z r).bnd fun x r => .lift ((pickB (peek r i) x).map fun bs => .bl (if al then bs.all id else bs.any id)) r
  | .pop0 i => .mk' fun r => match peek r i with
    | some (.lst true xs) => match xs[xs.length - 1]? with
      | some d => .ok d (putE r i (.lst true xs.dropLast))
      | none => .bad
    | _ => .bad
  | .pop1 i e => .mk' fun r => (hasL i r).bnd fun _ r => ((ev3 e).z r).bnd fun k r => match peek r i, k with
    | some (.lst true xs), .int k => match ixq xs.length k with
      | some j => match xs[j]? with
        | some d => .ok d (putE r i (.lst true (xs.eraseIdx j)))
        | none => .bad
      | none => .bad
    | _, _ => .bad
  | .index a b => .mk' fun r => ((ev3 a).z r).bnd fun x r => ((ev3 b).z r).bnd fun y r => match x with
    | .lst false xs => if y.flat && xs.all D.flat then .lift ((xs.findIdx? fun z => D.eqv z y).map fun (k : Nat) => .int k) r else .bad
    | _ => .bad
  | .lrng a => .mk' fun r => ((ev3 a).v r).bnd fun x r => .lift ((asInt x).bind fun n => (rng2q 0 n).map (.lst true)) r
  | .rng1 a => .it fun r => ((ev3 a).v r).bnd fun x r => .lift ((asInt x).bind fun n => rng2q 0 n) r
  | .rng2 a b => .it fun r => ((ev3 a).v r).bnd fun x r => ((ev3 b).v r).bnd fun y r => .lift ((asInt x).bind fun l => (asInt y).bind fun h => rng2q l h) r
  | .rng3 a b c => .it fun r => ((ev3 a).v r).bnd fun x r => ((ev3 b).v r).bnd fun y r => ((ev3 c).v r).bnd fun z r =>
      .lift ((asInt x).bind fun l => (asInt y).bind fun h => (asInt z).bind fun s => rng3q l h s) r
  | .enm a => .it fun r => ((ev3 a).z r).bnd fun x r => .lift ((itemsq x).map (enumq 0)) r
  | .zip a b => .it fun r => ((ev3 a).z r).bnd fun x r => ((ev3 b).z r).bnd fun y r => .lift ((itemsp x y).map fun p => zipq p.1 p.2) r
def ev3s : List E → List Md
  | [] => []
  | e :: es => ev3 e :: ev3s es
def ev3o : Option E → Option Md
  | none => none
  | some e => some (ev3 e)
end

mutual
def ex : S → Env → Res
  | .bad, _ => .bad
  | .asg i e, r => ((ev3 sig C e).v r).fin fun d r => .nx (putE r i d)
  | .asgT is e, r => ((ev3 sig C e).z r).fin fun d r => match bindT r (.tp is) d with
    | some r => .nx r
    | none => .bad
  | .par is es, r => (evs (ev3s sig C es) r).fin fun ds r => match putsE r is ds with
    | some r => .nx r
    | none => .bad
  | .aug i op e, r => match peek r i with
    | some x => ((ev3 sig C e).z r).fin fun y r => match augop op x y with
      | some z => .nx (putE r i z)
      | none => .bad
    | none => .bad
  | .setx i k e, r => ((ev3 sig C e).z r).fin fun d r => (has i r).fin fun _ r => ((ev3 sig C k).z r).fin fun k r => match peek r i, k with
    | some (.lst true xs), .int k => match ixq xs.length k with
      | some j => .nx (putE r i (.lst true (xs.set j d)))
      | none => .bad
    | some (.dic true ks vs), k => if k.keyOk && decide (ks.length < SZ) then .nx (putE r i (.dic true (putq k d ks vs).1 (putq k d ks vs).2)) else .bad
    | _, _ => .bad
  | .app i e, r => (hasL i r).fin fun _ r => ((ev3 sig C e).z r).fin fun d r => match peek r i with
    | some (.lst true xs) => if xs.length < SZ then .nx (putE r i (.lst true (xs ++ [d]))) else .bad
    | _ => .bad
  | .expr e, r => ((ev3 sig C e).v r).fin fun _ r => .nx r
  | .ret e, r => ((ev3 sig C e).v r).fin fun d r => .rt d r
  | .retN, r => .rt .non r
  | .ite c a b, r => ((ev3 sig C c).t r).fin fun t r => if t then exs a r else exs b r
  | .whl c b, r => whL (ev3 sig C c).t (exs b) WH r
  | .for_ tg it b, r => ((ev3 sig C it).i r).fin fun xs r => forL (fun x r => match bindT r tg x with
    | some r => exs b r
    | none => .bad) xs r
  | .brk, r => .bk r
  | .cnt, r => .ct r
  | .pass, r => .nx r
def exs : List S → Env → Res
  | [], r => .nx r
  | s :: ss, r => match ex s r with
    | .nx r => exs ss r
    | o => o
end
end

/-- of the parameters' variables that one which its callers see -/
def finE (io : Option Nat) (np : Nat) (r : Env) : Env := (List.range np).map fun j => if io = some j then peek r j else none
/-- a def's run: what it hands back, and its parameter that stands for a callers' variable -/
def runF (sig : Sig) (C : Calls) (f : Fn) (ds : List D) : Out D :=
  if ds.length = f.np then
    (match exs sig C f.body (ds.map some ++ List.replicate (f.nn - f.np) none) with
    | .rt d r => .ok d (finE f.io f.np r)
    | .nx r => .ok .non (finE f.io f.np r)
    | .exn c xs r => .exn c xs (finE f.io f.np r)
    | _ => .bad)
  else .bad
def sigOf (fs : List Fn) : Sig := fun k => (fs[k]?).bind Fn.io
/-- calls within calls, k deep -/
def callN (fs : List Fn) : Nat → Calls
  | 0 => fun _ _ => .bad
  | k + 1 => fun f ds => match fs[f]? with
    | some fn => runF (sigOf fs) (callN fs k) fn ds
    | none => .bad
end Sf
end
section
set_option Elab.async false
set_option maxRecDepth 100000
set_option linter.all false
/-! SfRel: how the evaluator's values stand for what lies in the heap. -/
namespace Sf
open PySem PySem.Spec PyProof.Rows L2

abbrev Sg (x : List Nat) : Str := ⟨x.toArray⟩
/-- a list that nobody changes: the script, an object of the module -/
def Fro (K : PySem.W.Frag) (H : Hp) (O : Addr → Prop) (a : Addr) (vs : List V) : Prop :=
  (∃ o, H a = some (.frz o (.lst vs))) ∨ (¬ O a ∧ H a = some (.lst vs)) ∨
    ∃ (o : Obj) (its : Array Value) (n : Nat), K.lookup a = some o ∧ o.cls = .type "list" ∧ o.dict = none ∧ o.data = .seq its n ∧ its.size ≤ sizeLine ∧ Vals vs its.toList
theorem Fro.sq {K : PySem.W.Frag} {H : Hp} {O : Addr → Prop} {a : Addr} {vs : List V} (h : Fro K H O a vs) : SqL K H a vs := by
  rcases h with ⟨o, h⟩ | ⟨_, h⟩ | h
  · exact .inl (.inr ⟨o, h⟩)
  · exact SqL.of h
  · exact .inr h
/-- a key's parts -/
def kpart : D → Option Key
  | .int i => some (.inl i)
  | .str x => some (.inr (Sg x))
  | _ => none
def kparts : List D → Option (List Key)
  | [] => some []
  | d :: ds => (kpart d).bind fun k => (kparts ds).map (k :: ·)
def keyQ : D → Option (List Key)
  | .tup xs => kparts xs
  | _ => none

mutual
/-- v stands for d; what may be changed by its owner is in O, and none of it is met here -/
inductive RZ (K : PySem.W.Frag) (H : Hp) (O : Addr → Prop) : D → V → Prop
  | non : RZ K H O .non .non
  | bl (b : Bool) : RZ K H O (.bl b) (.bl b)
  | int (i : Int) : RZ K H O (.int i) (.int i)
  | str (x : List Nat) : RZ K H O (.str x) (.str (Sg x))
  | tup {ds : List D} {a : Addr} {vs : List V} : ¬ O a → H a = some (.tup vs) → ds.length ≤ SZ → RZs K H O ds vs → RZ K H O (.tup ds) (.ref a)
  | lst {ds : List D} {a : Addr} {vs : List V} : ¬ O a → H a = some (.lst vs) → ds.length ≤ SZ → RZs K H O ds vs → RZ K H O (.lst false ds) (.ref a)
  | scr {ds : List D} {a : Addr} {vs : List V} : Fro K H O a vs → ds.length ≤ SZ → RZs K H O ds vs → RZ K H O (.scr ds) (.ref a)
  | dic {ks vs : List D} {a : Addr} {kvs : List (List Key × V)} {us : List V} : ¬ O a → H a = some (.dT kvs) → ks.map keyQ = kvs.map (fun p => some p.1) → kvs.map (·.2) = us → RZs K H O vs us → RZ K H O (.dic false ks vs) (.ref a)
inductive RZs (K : PySem.W.Frag) (H : Hp) (O : Addr → Prop) : List D → List V → Prop
  | nil : RZs K H O [] []
  | cons {d : D} {v : V} {ds : List D} {vs : List V} : RZ K H O d v → RZs K H O ds vs → RZs K H O (d :: ds) (v :: vs)
end
/-- .. where the owner holds it: f is what he may change of it -/
inductive RO (K : PySem.W.Frag) (H : Hp) (O : Addr → Prop) : D → V → List Addr → Prop
  | z {d : D} {v : V} : RZ K H O d v → RO K H O d v []
  | lst {ds : List D} {a : Addr} {vs : List V} : H a = some (.lst vs) → ds.length ≤ SZ → RZs K H O ds vs → RO K H O (.lst true ds) (.ref a) [a]
  | dic {ks vs : List D} {a : Addr} {kvs : List (List Key × V)} {us : List V} : H a = some (.dT kvs) → ks.map keyQ = kvs.map (fun p => some p.1) → kvs.map (·.2) = us → RZs K H O vs us → RO K H O (.dic true ks vs) (.ref a) [a]

section
variable {K : PySem.W.Frag} {H H' : Hp} {O O' : Addr → Prop}
/-- what is kept: all that O does not hold, and what is known -/
structure Keep (H H' : Hp) (O O' : Addr → Prop) : Prop where
  obj : ∀ a o, H a = some o → ¬ O a → (∀ q, o ≠ .tbl q) → H' a = some o ∧ ¬ O' a
  frz : ∀ a o u, H a = some (.frz o u) → H' a = some (.frz o u)
theorem Keep.fro (k : Keep H H' O O') {a : Addr} {vs : List V} (h : Fro K H O a vs) : Fro K H' O' a vs := by
  rcases h with ⟨o, h⟩ | ⟨n, h⟩ | h
  · exact .inl ⟨o, k.frz _ _ _ h⟩
  · exact .inr (.inl ⟨(k.obj _ _ h n (fun _ q => nomatch q)).2, (k.obj _ _ h n (fun _ q => nomatch q)).1⟩)
  · exact .inr (.inr h)
mutual
theorem RZ.keep (k : Keep H H' O O') : ∀ {d : D} {v : V}, RZ K H O d v → RZ K H' O' d v
  | _, _, .non => .non
  | _, _, .bl b => .bl b
  | _, _, .int i => .int i
  | _, _, .str x => .str x
  | _, _, .tup n e z r => .tup (k.obj _ _ e n (fun _ q => nomatch q)).2 (k.obj _ _ e n (fun _ q => nomatch q)).1 z (RZs.keep k r)
  | _, _, .lst n e z r => .lst (k.obj _ _ e n (fun _ q => nomatch q)).2 (k.obj _ _ e n (fun _ q => nomatch q)).1 z (RZs.keep k r)
  | _, _, .scr f z r => .scr (k.fro f) z (RZs.keep k r)
  | _, _, .dic n e q u r => .dic (k.obj _ _ e n (fun _ q => nomatch q)).2 (k.obj _ _ e n (fun _ q => nomatch q)).1 q u (RZs.keep k r)
theorem RZs.keep (k : Keep H H' O O') : ∀ {ds : List D} {vs : List V}, RZs K H O ds vs → RZs K H' O' ds vs
  | _, _, .nil => .nil
  | _, _, .cons a b => .cons (RZ.keep k a) (RZs.keep k b)
end
theorem RO.keep (k : Keep H H' O O') {d : D} {v : V} {f : List Addr} (h : RO K H O d v f) (hf : ∀ a ∈ f, H' a = H a) : RO K H' O' d v f := by
  cases h with
  | z r => exact .z (r.keep k)
  | lst e z r => exact .lst ((hf _ (by simp)).trans e) z (r.keep k)
  | dic e q u r => exact .dic ((hf _ (by simp)).trans e) q u (r.keep k)
theorem RZs.len : ∀ {ds : List D} {vs : List V}, RZs K H O ds vs → ds.length = vs.length
  | _, _, .nil => rfl
  | _, _, .cons _ b => congrArg (· + 1) b.len
theorem RZs.get : ∀ {ds : List D} {vs : List V} {i : Nat} {d : D}, RZs K H O ds vs → ds[i]? = some d → ∃ v, vs[i]? = some v ∧ RZ K H O d v
  | _, _, _, _, .nil, e => by simp at e
  | _, _, 0, _, .cons r _, e => by simp at e; subst e; exact ⟨_, rfl, r⟩
  | _, _, i + 1, d, .cons _ t, e => by
    obtain ⟨u, h1, h2⟩ := RZs.get (i := i) (d := d) t (by simpa using e)
    exact ⟨u, by simpa using h1, h2⟩
theorem RZs.getV : ∀ {ds : List D} {vs : List V} {i : Nat} {v : V}, RZs K H O ds vs → vs[i]? = some v → ∃ d, ds[i]? = some d ∧ RZ K H O d v
  | _, _, _, _, .nil, e => by simp at e
  | _, _, 0, _, .cons r _, e => by simp at e; subst e; exact ⟨_, rfl, r⟩
  | _, _, i + 1, d, .cons _ t, e => by
    obtain ⟨u, h1, h2⟩ := RZs.getV (i := i) (v := d) t (by simpa using e)
    exact ⟨u, by simpa using h1, h2⟩
theorem RZs.append : ∀ {xs ys : List D} {us ws : List V}, RZs K H O xs us → RZs K H O ys ws → RZs K H O (xs ++ ys) (us ++ ws)
  | _, _, _, _, .nil, s => s
  | _, _, _, _, .cons r t, s => .cons r (RZs.append t s)
theorem RZs.take : ∀ {xs : List D} {us : List V} (n : Nat), RZs K H O xs us → RZs K H O (xs.take n) (us.take n)
  | _, _, 0, _ => .nil
  | _, _, _ + 1, .nil => .nil
  | _, _, n + 1, .cons r t => .cons r (RZs.take n t)
theorem RZs.drop : ∀ {xs : List D} {us : List V} (n : Nat), RZs K H O xs us → RZs K H O (xs.drop n) (us.drop n)
  | _, _, 0, r => r
  | _, _, _ + 1, .nil => .nil
  | _, _, n + 1, .cons _ t => RZs.drop n t
theorem RZs.set {x : D} {u : V} (r : RZ K H O x u) : ∀ {xs : List D} {us : List V} (i : Nat), RZs K H O xs us → RZs K H O (xs.set i x) (us.set i u)
  | _, _, _, .nil => .nil
  | _, _, 0, .cons _ t => .cons r t
  | _, _, i + 1, .cons q t => .cons q (RZs.set r i t)
theorem RZs.flat {x : List D} {u : List V} (r : RZs K H O x u) : ∀ n : Nat, RZs K H O (List.replicate n x).flatten (List.replicate n u).flatten
  | 0 => .nil
  | n + 1 => by
    rw [List.replicate_succ, List.replicate_succ, List.flatten_cons, List.flatten_cons]
    exact r.append (r.flat n)
theorem RZs.dropLast : ∀ {xs : List D} {us : List V}, RZs K H O xs us → RZs K H O xs.dropLast us.dropLast := fun {xs us} r => by
  rw [List.dropLast_eq_take, List.dropLast_eq_take, ← r.len]
  exact r.take _
theorem RZs.eraseIdx : ∀ {xs : List D} {us : List V} (i : Nat), RZs K H O xs us → RZs K H O (xs.eraseIdx i) (us.eraseIdx i)
  | _, _, _, .nil => by simpa using RZs.nil
  | _, _, 0, .cons _ t => by simpa using t
  | _, _, i + 1, .cons q t => by simpa using RZs.cons q (RZs.eraseIdx i t)
/-- an int, a bool, .. by its value -/
theorem RZ.int_inv {i : Int} {v : V} (h : RZ K H O (.int i) v) : v = .int i := by cases h; rfl
theorem RZ.bl_inv {i : Bool} {v : V} (h : RZ K H O (.bl i) v) : v = .bl i := by cases h; rfl
theorem RZ.str_inv {i : List Nat} {v : V} (h : RZ K H O (.str i) v) : v = .str (Sg i) := by cases h; rfl
theorem RO.zof {d : D} {v : V} {f : List Addr} (h : RO K H O d v f) (hz : d.isZ = true) : RZ K H O d v ∧ f = [] := by
  cases h with
  | z r => exact ⟨r, rfl⟩
  | lst => cases hz
  | dic => cases hz
/-- given free: what was his is nobody's -/
theorem RO.frz {d : D} {v : V} {f : List Addr} (h : RO K H O d v f) (hO : ∀ a, O' a → O a) (hf : ∀ a ∈ f, ¬ O' a) : RZ K H O' d.frz v := by
  have k : Keep H H O O' := ⟨fun a o e n _ => ⟨e, fun z => n (hO a z)⟩, fun _ _ _ e => e⟩
  cases h with
  | z r =>
    have r' := r.keep k
    cases r' with
    | lst n e z r1 => exact .lst n e z r1
    | dic n e q u r1 => exact .dic n e q u r1
    | non => exact .non
    | bl b => exact .bl b
    | int i => exact .int i
    | str x => exact .str x
    | tup n e z r1 => exact .tup n e z r1
    | scr e z r1 => exact .scr e z r1
  | lst e z r => exact .lst (hf _ (by simp)) e z (r.keep k)
  | dic e q u r => exact .dic (hf _ (by simp)) e q u (r.keep k)
theorem RZ.frz_eq {d : D} {v : V} (h : RZ K H O d v) : d.frz = d := by cases h <;> rfl
theorem RO.mem {d : D} {v : V} {f : List Addr} (h : RO K H O d v f) : ∀ a ∈ f, ∃ o, H a = some o ∧ ∀ q, o ≠ .tbl q := by
  cases h with
  | z r => intro a ha; simp at ha
  | lst e z r => intro a ha; simp at ha; subst ha; exact ⟨_, e, fun _ q => nomatch q⟩
  | dic e q u r => intro a ha; simp at ha; subst ha; exact ⟨_, e, fun _ q => nomatch q⟩
theorem RO.nd {d : D} {v : V} {f : List Addr} (h : RO K H O d v f) : f.Nodup := by
  cases h with
  | z r => exact List.nodup_nil
  | lst e z r => simp
  | dic e q u r => simp
end

/-! ### the variables -/
def Own (G : Addr → Prop) (fp : Nat → List Addr) (a : Addr) : Prop := G a ∨ ∃ i, a ∈ fp i
/-- slot i owns f -/
def setF (fp : Nat → List Addr) (i : Nat) (f : List Addr) : Nat → List Addr := fun j => if j = i then f else fp j
/-- the tables of the defs' code: they may grow at any time -/
def Tab (H : Hp) (P : Addr) : Prop := ∃ ps : Array Value, H P = some (.tbl ps) ∧ TriplesOk ps.toList
structure EnvR (K : PySem.W.Frag) (tb : List Addr) (H : Hp) (G : Addr → Prop) (r : Env) (σ : L2.St) (fp : Nat → List Addr) : Prop where
  len : r.length = σ.length
  rel : ∀ i d, peek r i = some d → ∃ v, σ[i]? = some (some v) ∧ RO K H (Own G fp) d v (fp i)
  emp : ∀ i, peek r i = none → fp i = []
  dis : ∀ i j a, i ≠ j → a ∈ fp i → a ∉ fp j
  out : ∀ i a, a ∈ fp i → ¬ G a
  gok : ∀ a, G a → ∃ o, H a = some o ∧ ∀ q, o ≠ .tbl q
  tab : ∀ P ∈ tb, Tab H P
/-- from one point to a later one: what the variables do not own stays, what they newly own is new -/
structure Pres (H : Hp) (fp : Nat → List Addr) (H' : Hp) (fp' : Nat → List Addr) : Prop where
  obj : ∀ a o, H a = some o → (∀ i, a ∉ fp i) → (∀ q, o ≠ .tbl q) → H' a = some o ∧ ∀ i, a ∉ fp' i
  frz : ∀ a o u, H a = some (.frz o u) → H' a = some (.frz o u)
  tbl : ∀ a q, H a = some (.tbl q) → ∃ q', H' a = some (.tbl q')
theorem Pres.refl {H : Hp} {fp : Nat → List Addr} : Pres H fp H fp := ⟨fun _ _ e n _ => ⟨e, n⟩, fun _ _ _ e => e, fun _ q e => ⟨q, e⟩⟩
theorem Pres.trans {H H1 H2 : Hp} {fp fp1 fp2 : Nat → List Addr} (a : Pres H fp H1 fp1) (b : Pres H1 fp1 H2 fp2) : Pres H fp H2 fp2 :=
  ⟨fun x o e n t => b.obj x o (a.obj x o e n t).1 (a.obj x o e n t).2 t, fun x o u e => b.frz x o u (a.frz x o u e), fun x q e => by
    obtain ⟨q1, e1⟩ := a.tbl x q e
    exact b.tbl x q1 e1⟩
/-- what is new later was new, or a variable's own -/
theorem Pres.fresh {H : Hp} {fp : Nat → List Addr} {H' : Hp} {fp' : Nat → List Addr} (p : Pres H fp H' fp') {a : Addr} (h : H' a = none) {o : HO} (e : H a = some o) : ∃ i, a ∈ fp i := by
  refine Classical.byContradiction fun n => ?_
  have n' : ∀ i, a ∉ fp i := fun i z => n ⟨i, z⟩
  by_cases t : ∀ q, o ≠ .tbl q
  · rw [(p.obj a o e n' t).1] at h; cases h
  · cases o with
    | tbl q =>
      obtain ⟨q', e'⟩ := p.tbl a q e
      rw [h] at e'; cases e'
    | _ => exact t fun q z => nomatch z
section
variable {K : PySem.W.Frag} {tb : List Addr} {H H' : Hp} {G : Addr → Prop} {r r' : Env} {σ : L2.St} {fp fp' : Nat → List Addr}
theorem Pres.keep (p : Pres H fp H' fp') (hG : ∀ a, G a → ∃ i, a ∈ fp i ∨ True) : Keep H H' (Own G fp) (Own G fp') :=
  ⟨fun a o e n t => ⟨(p.obj a o e (fun i z => n (.inr ⟨i, z⟩)) t).1, fun z => z.elim (fun q => n (.inl q)) fun ⟨i, q⟩ => (p.obj a o e (fun i z => n (.inr ⟨i, z⟩)) t).2 i q⟩, p.frz⟩
theorem Pres.kp (p : Pres H fp H' fp') : Keep H H' (Own G fp) (Own G fp') := p.keep fun _ _ => ⟨0, .inr trivial⟩
theorem EnvR.z (e : EnvR K tb H G r σ fp) {i : Nat} {d : D} (h : peek r i = some d) (hz : d.isZ = true) : ∃ v, σ[i]? = some (some v) ∧ RZ K H (Own G fp) d v ∧ fp i = [] := by
  obtain ⟨v, h1, h2⟩ := e.rel i d h
  exact ⟨v, h1, (h2.zof hz).1, (h2.zof hz).2⟩
theorem peek_put {r : Env} {i j : Nat} {d : D} (hi : i < r.length) : peek (putE r i d) j = if j = i then some d else peek r j := by
  unfold peek putE
  by_cases h : j = i
  · subst h; rw [if_pos rfl, List.getElem?_set_self hi]; rfl
  · rw [if_neg h, List.getElem?_set_ne (Ne.symm h)]
theorem peek_lt {r : Env} {i : Nat} {d : D} (h : peek r i = some d) : i < r.length := by
  unfold peek at h
  by_cases q : i < r.length
  · exact q
  · rw [List.getElem?_eq_none (by omega)] at h; simp at h
/-- something new is laid -/
theorem keep_new {H : Hp} {O : Addr → Prop} {p : Addr} {o : HO} (hp : H p = none) : Keep H (upd H p o) O O :=
  ⟨fun a u e n _ => ⟨by rw [upd_ne (ne_of_none e hp)]; exact e, n⟩, fun a u w e => by rw [upd_ne (ne_of_none e hp)]; exact e⟩
theorem pres_new {H : Hp} {fp : Nat → List Addr} {p : Addr} {o : HO} (hp : H p = none) : Pres H fp (upd H p o) fp :=
  ⟨fun a u e n _ => ⟨by rw [upd_ne (ne_of_none e hp)]; exact e, n⟩, fun a u w e => by rw [upd_ne (ne_of_none e hp)]; exact e, fun a q e => ⟨q, by rw [upd_ne (ne_of_none e hp)]; exact e⟩⟩
theorem tab_new {P p : Addr} {o : HO} (hp : H p = none) (t : Tab H P) : Tab (upd H p o) P := by
  obtain ⟨ps, e, q⟩ := t
  exact ⟨ps, by rw [upd_ne (ne_of_none e hp)]; exact e, q⟩
theorem EnvR.new (e : EnvR K tb H G r σ fp) {p : Addr} {o : HO} (hp : H p = none) : EnvR K tb (upd H p o) G r σ fp := by
  refine ⟨e.len, fun i d h => ?_, e.emp, e.dis, e.out, fun a h => ?_, fun P hP => tab_new hp (e.tab P hP)⟩
  · obtain ⟨v, h1, h2⟩ := e.rel i d h
    refine ⟨v, h1, h2.keep (keep_new hp) fun a ha => ?_⟩
    obtain ⟨u, hu, _⟩ := h2.mem a ha
    exact upd_ne (ne_of_none hu hp)
  · obtain ⟨u, hu, q⟩ := e.gok a h
    exact ⟨u, by rw [upd_ne (ne_of_none hu hp)]; exact hu, q⟩
/-- more is protected: something that nobody's variable owns and no frozen value meets -/
theorem EnvR.grow (e : EnvR K tb H G r σ fp) {f : List Addr} (hf : ∀ a ∈ f, ∃ o, H a = some o ∧ ∀ q, o ≠ .tbl q) (hn : ∀ a ∈ f, ∀ i, a ∉ fp i)
    (hr : ∀ i d v, peek r i = some d → σ[i]? = some (some v) → RO K H (Own G fp) d v (fp i) → RO K H (Own (fun a => G a ∨ a ∈ f) fp) d v (fp i)) : EnvR K tb H (fun a => G a ∨ a ∈ f) r σ fp :=
  ⟨e.len, fun i d h => by obtain ⟨v, h1, h2⟩ := e.rel i d h; exact ⟨v, h1, hr i d v h h1 h2⟩, e.emp, e.dis, fun i a h z => z.elim (e.out i a h) fun q => hn a q i h, fun a z => z.elim (e.gok a) (hf a), e.tab⟩
/-- a new object that is the maker's own for now -/
theorem EnvR.newOwn (e : EnvR K tb H G r σ fp) {p : Addr} {o : HO} (hp : H p = none) (ho : ∀ q, o ≠ .tbl q) : EnvR K tb (upd H p o) (fun a => G a ∨ a ∈ [p]) r σ fp := by
  refine (e.new hp).grow (fun a ha => ?_) (fun a ha i hi => ?_) fun i d v h1 h2 _ => ?_
  · have : a = p := by simpa using ha
    subst this
    exact ⟨o, upd_same, ho⟩
  · have : a = p := by simpa using ha
    subst this
    cases hpk : peek r i with
    | none => rw [e.emp i hpk] at hi; simp at hi
    | some d =>
      obtain ⟨v, _, h2⟩ := e.rel i d hpk
      obtain ⟨u, hu, _⟩ := h2.mem a hi
      rw [hp] at hu; cases hu
  · obtain ⟨v', h3, h4⟩ := e.rel i d h1
    rw [h2] at h3; cases h3
    refine h4.keep ⟨fun a u eu n _ => ⟨by rw [upd_ne (ne_of_none eu hp)]; exact eu, fun z => ?_⟩, fun a u w eu => by rw [upd_ne (ne_of_none eu hp)]; exact eu⟩ fun a ha => ?_
    · rcases z with (z | z) | z
      · exact n (.inl z)
      · have : a = p := by simpa using z
        subst this
        rw [hp] at eu; cases eu
      · exact n (.inr z)
    · obtain ⟨u, hu, _⟩ := h4.mem a ha
      exact upd_ne (ne_of_none hu hp)
/-- less is protected -/
theorem EnvR.less {G' : Addr → Prop} (e : EnvR K tb H G r σ fp) (h : ∀ a, G' a → G a) : EnvR K tb H G' r σ fp :=
  ⟨e.len, fun i d q => by
    obtain ⟨v, h1, h2⟩ := e.rel i d q
    exact ⟨v, h1, h2.keep ⟨fun a o ea n _ => ⟨ea, fun z => n (z.elim (fun z => .inl (h a z)) .inr)⟩, fun _ _ _ q => q⟩ fun _ _ => rfl⟩, e.emp, e.dis, fun i a ha z => e.out i a ha (h a z), fun a z => e.gok a (h a z), e.tab⟩
theorem setF_mem {i j : Nat} {f : List Addr} {a : Addr} (h : a ∈ setF fp i f j) : (j = i ∧ a ∈ f) ∨ (j ≠ i ∧ a ∈ fp j) := by
  unfold setF at h
  by_cases q : j = i
  · rw [if_pos q] at h; exact .inl ⟨q, h⟩
  · rw [if_neg q] at h; exact .inr ⟨q, h⟩
theorem setF_eq {i : Nat} {f : List Addr} : setF fp i f i = f := if_pos rfl
theorem setF_ne {i j : Nat} {f : List Addr} (h : j ≠ i) : setF fp i f j = fp j := if_neg h
/-- slot i takes d, whose owned parts f were protected -/
theorem EnvR.put {f : List Addr} {d : D} {v : V} {i : Nat} (e : EnvR K tb H (fun a => G a ∨ a ∈ f) r σ fp) (hi : i < r.length) (hG : ∀ a ∈ f, ¬ G a) (hd : RO K H (Own (fun a => G a ∨ a ∈ f) fp) d v f) :
    EnvR K tb H G (putE r i d) (σ.set i (some v)) (setF fp i f) := by
  have kp : Keep H H (Own (fun a => G a ∨ a ∈ f) fp) (Own G (setF fp i f)) := ⟨fun a o ea n _ => ⟨ea, fun z => n (by
    rcases z with z | ⟨j, z⟩
    · exact .inl (.inl z)
    · rcases setF_mem z with ⟨_, q⟩ | ⟨_, q⟩
      · exact .inl (.inr q)
      · exact .inr ⟨j, q⟩)⟩, fun _ _ _ q => q⟩
  refine ⟨by unfold putE; rw [List.length_set, List.length_set]; exact e.len, fun j d' h => ?_, fun j h => ?_, fun j k a hjk hj hk => ?_, fun j a hj hg => ?_, fun a z => e.gok a (.inl z), e.tab⟩
  · rw [peek_put hi] at h
    by_cases hj : j = i
    · rw [if_pos hj] at h; cases h
      subst hj
      refine ⟨v, List.getElem?_set_self (by rw [← e.len]; exact hi), ?_⟩
      rw [setF_eq]
      exact hd.keep kp fun _ _ => rfl
    · rw [if_neg hj] at h
      obtain ⟨v', h1, h2⟩ := e.rel j d' h
      refine ⟨v', by rw [List.getElem?_set_ne (Ne.symm hj)]; exact h1, ?_⟩
      rw [setF_ne hj]
      exact h2.keep kp fun _ _ => rfl
  · rw [peek_put hi] at h
    by_cases hj : j = i
    · rw [if_pos hj] at h; cases h
    · rw [if_neg hj] at h
      rw [setF_ne hj]; exact e.emp j h
  · rcases setF_mem hj with ⟨h1, q1⟩ | ⟨h1, q1⟩
    · rcases setF_mem hk with ⟨h2, q2⟩ | ⟨h2, q2⟩
      · exact hjk (h1.trans h2.symm)
      · exact e.out k a q2 (.inr q1)
    · rcases setF_mem hk with ⟨h2, q2⟩ | ⟨h2, q2⟩
      · exact e.out j a q1 (.inr q2)
      · exact e.dis j k a hjk q1 q2
  · rcases setF_mem hj with ⟨h1, q1⟩ | ⟨h1, q1⟩
    · exact hG a q1 hg
    · exact e.out j a q1 (.inl hg)
/-- slot i gives its own free -/
theorem EnvR.free {i : Nat} {d : D} (e : EnvR K tb H G r σ fp) (h : peek r i = some d) : EnvR K tb H G (putE r i d.frz) σ (setF fp i []) := by
  have hi := peek_lt h
  have sub : ∀ a, Own G (setF fp i []) a → Own G fp a := fun a z => by
    rcases z with z | ⟨j, z⟩
    · exact .inl z
    · rcases setF_mem z with ⟨_, q⟩ | ⟨_, q⟩
      · simp at q
      · exact .inr ⟨j, q⟩
  have kp : Keep H H (Own G fp) (Own G (setF fp i [])) := ⟨fun a o ea n _ => ⟨ea, fun z => n (sub a z)⟩, fun _ _ _ q => q⟩
  refine ⟨by unfold putE; rw [List.length_set]; exact e.len, fun j d' hd => ?_, fun j hd => ?_, fun j k a hjk hj hk => ?_, fun j a hj hg => ?_, e.gok, e.tab⟩
  · rw [peek_put hi] at hd
    by_cases hj : j = i
    · rw [if_pos hj] at hd; cases hd
      subst hj
      obtain ⟨v, h1, h2⟩ := e.rel j d h
      refine ⟨v, h1, ?_⟩
      rw [setF_eq]
      refine .z (h2.frz sub fun a ha z => ?_)
      rcases z with z | ⟨k, z⟩
      · exact e.out j a ha z
      · rcases setF_mem z with ⟨_, q⟩ | ⟨q1, q⟩
        · simp at q
        · exact e.dis j k a (Ne.symm q1) ha q
    · rw [if_neg hj] at hd
      obtain ⟨v', h1, h2⟩ := e.rel j d' hd
      refine ⟨v', h1, ?_⟩
      rw [setF_ne hj]
      exact h2.keep kp fun _ _ => rfl
  · rw [peek_put hi] at hd
    by_cases hj : j = i
    · rw [if_pos hj] at hd; cases hd
    · rw [if_neg hj] at hd
      rw [setF_ne hj]; exact e.emp j hd
  · rcases setF_mem hj with ⟨h1, q1⟩ | ⟨h1, q1⟩
    · simp at q1
    · rcases setF_mem hk with ⟨h2, q2⟩ | ⟨h2, q2⟩
      · simp at q2
      · exact e.dis j k a hjk q1 q2
  · rcases setF_mem hj with ⟨h1, q1⟩ | ⟨h1, q1⟩
    · simp at q1
    · exact e.out j a q1 hg
theorem pres_less {i : Nat} : Pres H fp H (setF fp i []) :=
  ⟨fun a o e n _ => ⟨e, fun j z => by
    rcases setF_mem z with ⟨_, q⟩ | ⟨_, q⟩
    · simp at q
    · exact n j q⟩, fun _ _ _ e => e, fun _ q e => ⟨q, e⟩⟩
/-- what slot i owns is changed -/
theorem EnvR.write {i : Nat} {d d' : D} {a : Addr} {o : HO} (e : EnvR K tb H G r σ fp) (h : peek r i = some d) (hf : fp i = [a]) (ho : ∀ q, o ≠ .tbl q)
    (hd : ∀ v, σ[i]? = some (some v) → RO K H (Own G fp) d v [a] → RO K (upd H a o) (Own G fp) d' v [a]) : EnvR K tb (upd H a o) G (putE r i d') σ fp := by
  have hi := peek_lt h
  obtain ⟨v, h1, h2⟩ := e.rel i d h
  have hai : a ∈ fp i := by rw [hf]; simp
  have oa : Own G fp a := .inr ⟨i, hai⟩
  obtain ⟨oo, hoo, htt⟩ := h2.mem a hai
  have notfrz : ∀ b u w, H b = some (.frz u w) → b ≠ a := fun b u w eb z => by
    subst z
    rw [hf] at h2
    cases h2 with
    | lst el _ _ => rw [el] at eb; cases eb
    | dic el _ _ _ => rw [el] at eb; cases eb
  have kp : Keep H (upd H a o) (Own G fp) (Own G fp) := ⟨fun b u eb n _ => ⟨by rw [upd_ne (fun (z : b = a) => n (by rw [z]; exact oa))]; exact eb, n⟩, fun b u w eb => by rw [upd_ne (notfrz b u w eb)]; exact eb⟩
  refine ⟨by unfold putE; rw [List.length_set]; exact e.len, fun j dj hj => ?_, fun j hj => ?_, e.dis, e.out, fun b hb => ?_, fun P hP => ?_⟩
  · rw [peek_put hi] at hj
    by_cases q : j = i
    · rw [if_pos q] at hj; cases hj
      subst q
      refine ⟨v, h1, ?_⟩
      rw [hf] at h2 ⊢
      exact hd v h1 h2
    · rw [if_neg q] at hj
      obtain ⟨v', h3, h4⟩ := e.rel j dj hj
      refine ⟨v', h3, h4.keep kp fun b hb => upd_ne fun z => ?_⟩
      subst z
      exact e.dis j i b q hb hai
  · rw [peek_put hi] at hj
    by_cases q : j = i
    · rw [if_pos q] at hj; cases hj
    · rw [if_neg q] at hj; exact e.emp j hj
  · by_cases z : b = a
    · subst z; exact ⟨o, upd_same, ho⟩
    · rw [upd_ne z]; exact e.gok b hb
  · obtain ⟨ps, ep, tp⟩ := e.tab P hP
    refine ⟨ps, by rw [upd_ne]; exact ep; intro z; subst z; rw [ep] at hoo; cases hoo; exact htt _ rfl, tp⟩
theorem pres_write {i : Nat} {a : Addr} {o : HO} (hf : a ∈ fp i) (hl : ∃ u, H a = some u ∧ (∀ x y, u ≠ .frz x y) ∧ ∀ q, u ≠ .tbl q) : Pres H fp (upd H a o) fp :=
  ⟨fun b u eb n _ => ⟨by rw [upd_ne (fun (z : b = a) => n i (by rw [z]; exact hf))]; exact eb, n⟩, fun b u w eb => by
    rw [upd_ne]; exact eb
    intro z; subst z
    obtain ⟨u', e1, e2, _⟩ := hl
    rw [e1] at eb; cases eb
    exact e2 _ _ rfl, fun b q eb => ⟨q, by
    rw [upd_ne]; exact eb
    intro z; subst z
    obtain ⟨u', e1, _, e2⟩ := hl
    rw [e1] at eb; cases eb
    exact e2 _ rfl⟩⟩
end
end Sf
end
section
set_option Elab.async false
set_option maxRecDepth 100000
set_option linter.all false
/-! SfEr: from the program's text to the evaluator's form. -/
namespace Sf
open PySem

def ixOf (x : Str) : List Str → Option Nat
  | [] => none
  | y :: ys => if y = x then some 0 else (ixOf x ys).map (· + 1)
theorem ixOf_get {x : Str} : ∀ {l : List Str} {i : Nat}, ixOf x l = some i → l[i]? = some x
  | [], _, h => by simp [ixOf] at h
  | y :: ys, i, h => by
    unfold ixOf at h
    by_cases e : y = x
    · rw [if_pos e] at h; cases h; simp [e]
    · rw [if_neg e] at h
      cases q : ixOf x ys with
      | none => rw [q] at h; cases h
      | some j => rw [q] at h; cases h; simpa using ixOf_get q

/-- what is known where a piece of text stands: the names by slot, the module's defs, their parameters, the defs that may be called by keywords, the scope, whether cells may be stored, whether a generator may stand here, the parameter that nobody stores -/
structure Inf where
  N : List Str
  fs : List Str
  prm : List (List Str)
  kwk : List Nat
  sc : Scope
  cw : Bool
  gen : Bool
  io : Option Nat

def bltN : List Str := ["len", "abs", "int", "list", "tuple", "sorted", "str", "max", "min", "isinstance", "range", "enumerate", "zip", "any", "all", "bool"]
def nameOk (x : Str) : Bool := !(decide (x = "__debug__")) && !(decide (x = "__classdict__")) && !(decide (x = "__name__"))
def Inf.var (I : Inf) (x : Str) : Option Nat := if nameOk x then (match I.sc.names.lookup x with
  | some .local => ixOf x I.N
  | some .cell => ixOf x I.N
  | some .free => ixOf x I.N
  | _ => none) else none
def Inf.tgt (I : Inf) (x : Str) : Option Nat := if nameOk x then (match I.sc.names.lookup x with
  | some .local => (ixOf x I.N).bind fun i => if I.io = some i then none else some i
  | some .cell => if I.cw then (ixOf x I.N).bind fun i => if I.io = some i then none else some i else none
  | _ => none) else none
def Inf.glb (I : Inf) (x : Str) : Bool := nameOk x && (match I.sc.names.lookup x with
  | some .globalImplicit => true
  | _ => false)
def biOf (x : Str) : Option Bi :=
  if x = "len" then some .len else if x = "abs" then some .abs else if x = "int" then some .int else if x = "list" then some .list
  else if x = "tuple" then some .tuple else if x = "sorted" then some .sorted else if x = "str" then some .str else none
def bi2Of (x : Str) : Option Bi2 := if x = "max" then some .max else if x = "min" then some .min else none
def tyOf (x : Str) : Option Ty :=
  if x = "int" then some .int else if x = "bool" then some .bool else if x = "str" then some .str else if x = "tuple" then some .tuple else if x = "list" then some .list else none
def opOf : Operator → Option BOp
  | .Add => some .add
  | .Sub => some .sub
  | .Mult => some .mul
  | .FloorDiv => some .fdiv
  | .Mod => some .mod
  | .Pow => some .pow
  | _ => none
def cpOf : CmpOp → COp
  | .Eq => .eq
  | .NotEq => .ne
  | .Lt => .lt
  | .LtE => .le
  | .Gt => .gt
  | .GtE => .ge
  | .Is => .is
  | .IsNot => .isnt
  | .In => .isin
  | .NotIn => .notin
def T.slots : T → List Nat
  | .nm i => [i]
  | .tp is => is
/-- for a form that is not served -/
def orE (o : Option E) : E := o.getD .bad
def tgtsOf (I : Inf) : List Expr → Option (List Nat)
  | [] => some []
  | .Name x _ :: es => (I.tgt x).bind fun i => (tgtsOf I es).map (i :: ·)
  | _ :: _ => none
def tgOf (I : Inf) : Expr → Option T
  | .Name x _ => (I.tgt x).map .nm
  | .Tuple es _ _ => (tgtsOf I es).map .tp
  | _ => none
/-- a comprehension's own names with their slots -/
def ownOf (N : List Str) : List (Str × NameKind) → List (Str × Nat)
  | [] => []
  | (x, k) :: r => match k with
    | .local => (match ixOf x N with
      | some i => (x, i) :: ownOf N r
      | none => ownOf N r)
    | _ => ownOf N r
def noCell (sc : Scope) : Bool := sc.names.all fun y => match y.2 with | .cell => false | _ => true
def kwNames : List Keyword → Option (List Str)
  | [] => some []
  | ⟨some x, _, _⟩ :: ks => (kwNames ks).map (x :: ·)
  | _ => none
def isComp : Expr → Bool
  | .ListComp _ _ _ _ => true
  | .SetComp _ _ _ _ => true
  | .DictComp _ _ _ _ _ => true
  | _ => false
def isTup : Expr → Bool
  | .Tuple _ _ _ => true
  | _ => false
/-- walked as pairs -/
def E.pairs : E → Bool
  | .enm _ => true
  | .zip _ _ => true
  | _ => false
def isSlice : Expr → Bool
  | .Slice _ _ _ _ => true
  | _ => false
def isStar : Expr → Bool
  | .Starred _ _ => true
  | _ => false
def isSet : Expr → Bool
  | .Set _ _ _ => true
  | _ => false

section
variable (f : Expr → E) (g : Inf → Expr → E) (I : Inf)
def infB (scope : Scope) : Inf := { I with sc := L2.relS scope I.sc, cw := false, gen := false }
def erComp (elt : Expr) (gens : List Comprehension) (scope : Scope) : E := match gens with
  | [⟨tg, it, ifs, 0⟩] =>
    if !isSet it && decide (ifs.length ≤ 1) && L2.blkC I.N I.sc scope (ownOf I.N scope.names) && noCell scope then
      (match tgOf (infB I scope) tg with
      | some t => if (t.slots.all fun j => decide (j ∈ (ownOf I.N scope.names).map (·.2))) && (!(f it).pairs || isTup tg) then
          .comp (g (infB I scope) elt) t (f it) (ifs.map (g (infB I scope))) ((ownOf I.N scope.names).map (·.2)) else .bad
      | none => .bad) else .bad
  | _ => .bad
def genOk (scope : Scope) (y m : Str) : Bool :=
  decide (scope.kind = .function) && !scope.isCoroutine && scope.names.all (fun w => !decide (w.2 = .cell)) && decide (scope.names.lookup (".0" : Str) = some .local) && decide (scope.names.lookup y = some .local) &&
    decide (scope.names.lookup m = some .free) && scope.names.all (fun w => !decide (w.2 = .free) || decide (w.1 = m)) && decide (I.sc.names.lookup m = some .cell) && nameOk y && nameOk m && I.gen
def erGen (al : Bool) (a : Expr) : E := match a with
  | .GeneratorExp (.Subscript (.Name m _) (.Name y _) _) [⟨.Name z _, it, [], 0⟩] scope _ =>
    (match ixOf m I.N with
    | some i => if decide (z = y) && genOk I scope y m && !isSet it && !isListE it then .anyA al i (f it) else .bad
    | none => .bad)
  | _ => .bad
where isListE : Expr → Bool
  | .List _ _ => true
  | _ => false
/-- range(c) -/
def rngArg (a : Expr) : Option Expr := match a with
  | .Call (.Name y _) [c] [] _ => if decide (y = "range") && I.glb y && decide (ixOf y I.fs = none) && !isStar c then some c else none
  | _ => none
/-- a call of a built-in -/
def erBlt (x : Str) (args : List Expr) : E := match args with
  | [a] => (match biOf x with
    | some b => (match (if decide (b = .list) then rngArg I a else none) with
      | some c => .lrng (f c)
      | none => .bi b (f a))
    | none => if x = "range" then .rng1 (f a) else if x = "enumerate" then .enm (f a) else if x = "any" then erGen f I false a else if x = "all" then erGen f I true a else .bad)
  | [a, b] => (match bi2Of x with
    | some o => .bi2 o (f a) (f b)
    | none => if x = "range" then .rng2 (f a) (f b) else if x = "zip" then .zip (f a) (f b) else if x = "isinstance" then
      (match b with
      | .Name t _ => (match tyOf t with
        | some ty => if I.glb t && decide (ixOf t I.fs = none) then .isi (f a) ty else .bad
        | none => .bad)
      | _ => .bad) else .bad)
  | [a, b, c] => if x = "range" then .rng3 (f a) (f b) (f c) else .bad
  | _ => .bad
/-- a call of the module's def k -/
def erDef (k : Nat) (args : List Expr) (kws : List Keyword) : E := match kws, args with
  | [], a :: as => if (a :: as).any isStar then .bad else .call k ((a :: as).map f) []
  | kws, [] => (match I.prm[k]? with
    | some ps => if decide (k ∈ I.kwk) && decide (kwNames kws = some ps) then .call k (kws.map fun w => f w.value) [] else .bad
    | none => .bad)
  | _, _ => .bad
def erMeth (o : Expr) (m : Str) (apos cpos : Pos) (args : List Expr) : E := match o with
  | .Name x _ => if apos.endLine == cpos.line then (match I.var x, args with
    | some i, [] => if m = "pop" then .pop0 i else .bad
    | some i, [a] => if isStar a then .bad else if m = "pop" then .pop1 i (f a) else if m = "index" then .index (f o) (f a) else .bad
    | _, _ => .bad) else .bad
  | _ => .bad
end
def erE : Nat → Inf → Expr → E
  | 0, _, _ => .bad
  | n + 1, I, e => match e with
    | .Name x _ => orE ((I.var x).map .var)
    | .Constant c _ _ => (match c with
      | .int i => .cint i
      | .bool b => .cbl b
      | .none => .cnon
      | .str s => .cstr s.cps.toList
      | _ => .bad)
    | .BinOp a op b _ => (match opOf op with
      | some o => .bin o (erE n I a) (erE n I b)
      | none => .bad)
    | .UnaryOp op a _ => (match op with
      | .Not => .not (erE n I a)
      | .USub => .neg (erE n I a)
      | _ => .bad)
    | .BoolOp op vs p => (match vs with
      | [] => .bad
      | [a] => .one (erE n I a)
      | a :: b :: r => (match op with
        | .And => .and (erE n I a) (erE n I (.BoolOp .And (b :: r) p))
        | .Or => .or (erE n I a) (erE n I (.BoolOp .Or (b :: r) p))))
    | .IfExp c a b _ => .ifx (erE n I c) (erE n I a) (erE n I b)
    | .Compare a ops cs _ => (match ops, cs with
      | [op], [b] => if behindInMarks op b then .bad else .cmp (cpOf op) (erE n I a) (erE n I b)
      | [op, op'], [b, c] => if lastMarks [op, op'] [b, c] then .bad else .chn (cpOf op) (cpOf op') (erE n I a) (erE n I b) (erE n I c)
      | _, _ => .bad)
    | .Tuple es _ _ => if es.any isStar then .bad else .tup (es.map (erE n I))
    | .List es _ => if es.any isStar then .bad else .lst (es.map (erE n I))
    | .Dict ks vs _ => (match ks, vs with
      | [], [] => .dic0
      | _, _ => .bad)
    | .Subscript a i _ => (match i with
      | .Slice lo hi st _ => (match st with
        | none => .slc (erE n I a) (lo.map (erE n I)) (hi.map (erE n I))
        | some _ => .bad)
      | i => .sub (erE n I a) (erE n I i))
    | .ListComp elt gens scope _ => erComp (erE n I) (erE n) I elt gens scope
    | .Call fn args kws cpos => (match fn with
      | .Name x _ => if I.glb x then
          (match ixOf x I.fs with
          | some k => erDef (erE n I) I k args kws
          | none => (match kws with
            | [] => if args.any isStar then .bad else erBlt (erE n I) I x args
            | _ => .bad)) else .bad
      | .Attribute o m apos => (match kws with
        | [] => erMeth (erE n I) I o m apos cpos args
        | _ => .bad)
      | _ => .bad)
    | _ => .bad

def orS (o : Option S) : S := o.getD .bad
/-- the plain local names on the first's line -/
def parNames (I : Inf) (ts : List Expr) : List Str := ts.filterMap fun
    | .Name id pos => if I.sc.names.lookup id == some .local && pos.line == (ts.head?.map (·.pos.line)).getD 0 then some id else none
    | _ => none
/-- how a parallel assignment stores: over a tuple, or the names from the right; none: not told -/
def parHow (I : Inf) (ts es : List Expr) : Option (Option (List Str)) :=
  if !(ts.length == 2 || ts.length == 3) || es.length != ts.length then some none else
  if (parNames I ts).length != ts.length || (parNames I ts).eraseDups.length != (parNames I ts).length then some none else
  if es.all (foldedForSure 8) then some none else if es.all (constantsAlone 8) then none else some (some (parNames I ts))
def locB (I : Inf) (x : Str) : Bool := decide (I.sc.names.lookup x = some .local)
section
variable (f : Expr → E) (I : Inf)
def erPar (ts es : List Expr) : S := match tgtsOf I ts with
  | some is => if es.any isStar || !decide (is.Nodup) || !decide (is.length ≤ SZ) then .bad else (match parHow I ts es with
    | some none => .par is (es.map f)
    | some (some ns) => (match ts, es with
      | [.Name x _, .Name y _], [_, _] => if decide (ns = [x, y]) && locB I x && locB I y then .par is (es.map f) else .bad
      | [.Name x _, .Name y _, .Name z _], [_, _, _] => if decide (ns = [x, y, z]) && locB I x && locB I y && locB I z then .par is (es.map f) else .bad
      | _, _ => .bad)
    | none => .bad)
  | none => .bad
def erAsg (t e : Expr) (pos : Pos) : S := match t with
  | .Name x px => (match I.tgt x with
    | some i => (match e with
      | .ListComp elt gens scope cpos => if (I.sc.names.lookup x == some .local) && (px.line == cpos.line) then
          (if (scope.names.any fun (n, k) => n == x && (k == .local || k == .cell)) then .bad else .asg i (f e)) else .asg i (f e)
      | .SetComp _ _ _ _ => .bad
      | .DictComp _ _ _ _ _ => .bad
      | e => .asg i (f e))
    | none => .bad)
  | .Tuple ts _ _ => (match e with
    | .Tuple es _ _ => erPar f I ts es
    | e => if isComp e then .bad else (match tgtsOf I ts with
      | some is => .asgT is (f e)
      | none => .bad))
  | .Subscript o k _ => (match o with
    | .Name x _ => if isSlice k then .bad else (match I.var x with
      | some i => .setx i (f k) (f e)
      | none => .bad)
    | _ => .bad)
  | _ => .bad
def erExp (e : Expr) : S := match e with
  | .Call (.Attribute (.Name x p) m apos) args kws cpos => if m = "append" then (match I.var x, args, kws with
      | some i, [a], [] => if isStar a || !(apos.endLine == cpos.line) then .bad else .app i (f a)
      | _, _, _ => .bad) else .expr (f (.Call (.Attribute (.Name x p) m apos) args kws cpos))
  | e => if isComp e then .bad else .expr (f e)
end
def erS : Nat → Inf → Stmt → S
  | 0, _, _ => .bad
  | n + 1, I, s => match s with
    | .Assign ts e pos => (match ts with
      | [t] => erAsg (erE n I) I t e pos
      | _ => .bad)
    | .AugAssign t op e _ => (match t with
      | .Name x _ => (match opOf op, I.tgt x with
        | some o, some i => .aug i o (erE n I e)
        | _, _ => .bad)
      | _ => .bad)
    | .Expr e _ => erExp (erE n I) I e
    | .Return v _ => (match v with
      | some e => .ret (erE n I e)
      | none => .retN)
    | .If c a b _ => .ite (erE n I c) (a.map (erS n I)) (b.map (erS n I))
    | .While c b els _ => (match els with
      | [] => .whl (erE n I c) (b.map (erS n I))
      | _ => .bad)
    | .For t it b els _ => (match els with
      | [] => (match tgOf I t with
        | some tg => if (!(erE n I it).pairs || isTup t) && !isSet it then .for_ tg (erE n I it) (b.map (erS n I)) else .bad
        | none => .bad)
      | _ => .bad)
    | .Break _ => .brk
    | .Continue _ => .cnt
    | .Pass _ => .pass
    | _ => .bad
end Sf
end
section
set_option Elab.async false
set_option maxRecDepth 100000
set_option linter.all false
/-! SfOps: the operations on values. -/
namespace Sf
open PySem PySem.Spec PyProof.Rows L2

/-- a value that has just come: of what stood, or new -/
inductive Made (K : PySem.W.Frag) (H : Hp) (O : Addr → Prop) : D → V → Hp → List Addr → Prop
  | same {d : D} {v : V} : RZ K H O d v → Made K H O d v H []
  | lst {ds : List D} {vs : List V} {p : Addr} : H p = none → ds.length ≤ SZ → RZs K H O ds vs → Made K H O (.lst true ds) (.ref p) (upd H p (.lst vs)) [p]
  | tup {ds : List D} {vs : List V} {p : Addr} : H p = none → ds.length ≤ SZ → RZs K H O ds vs → Made K H O (.tup ds) (.ref p) (upd H p (.tup vs)) []
  | dic {p : Addr} : H p = none → Made K H O (.dic true [] []) (.ref p) (upd H p (.dT [])) [p]
section
variable {K : PySem.W.Frag} {tb : List Addr} {H H' : Hp} {G : Addr → Prop} {r : Env} {σ : L2.St} {fp : Nat → List Addr} {d : D} {v : V} {f : List Addr}
/-- an address that is new is nobody's -/
theorem EnvR.notOwn (e : EnvR K tb H G r σ fp) {p : Addr} (hp : H p = none) : ¬ Own G fp p := by
  rintro (z | ⟨i, z⟩)
  · obtain ⟨o, ho, _⟩ := e.gok p z
    rw [hp] at ho; cases ho
  · cases hpk : peek r i with
    | none => rw [e.emp i hpk] at z; simp at z
    | some d =>
      obtain ⟨v, _, h2⟩ := e.rel i d hpk
      obtain ⟨u, hu, _⟩ := h2.mem p z
      rw [hp] at hu; cases hu
theorem keep_grow {o : HO} {p : Addr} {O : Addr → Prop} (hp : H p = none) : Keep H (upd H p o) (Own G fp) (Own (fun a => G a ∨ a ∈ [p]) fp) :=
  ⟨fun a u eu n _ => ⟨by rw [upd_ne (ne_of_none eu hp)]; exact eu, fun z => by
    rcases z with (z | z) | z
    · exact n (.inl z)
    · have : a = p := by simpa using z
      subst this
      rw [hp] at eu; cases eu
    · exact n (.inr z)⟩, fun a u w eu => by rw [upd_ne (ne_of_none eu hp)]; exact eu⟩
theorem Made.env (m : Made K H (Own G fp) d v H' f) (e : EnvR K tb H G r σ fp) :
    EnvR K tb H' (fun a => G a ∨ a ∈ f) r σ fp ∧ (∀ a ∈ f, ¬ G a) ∧ RO K H' (Own (fun a => G a ∨ a ∈ f) fp) d v f ∧ Pres H fp H' fp ∧ ∀ a ∈ f, H a = none := by
  have sub : ∀ {H' : Hp} {d : D} {v : V}, RZ K H' (Own G fp) d v → RZ K H' (Own (fun a => G a ∨ a ∈ ([] : List Addr)) fp) d v := fun r =>
    r.keep ⟨fun a o ea n _ => ⟨ea, fun z => n (z.elim (fun z => z.elim .inl fun q => by simp at q) .inr)⟩, fun _ _ _ q => q⟩
  have subE : ∀ {H' : Hp}, EnvR K tb H' G r σ fp → EnvR K tb H' (fun a => G a ∨ a ∈ ([] : List Addr)) r σ fp := fun e => e.less fun a z => z.elim id fun q => by simp at q
  cases m with
  | same r => exact ⟨subE e, fun a ha => by simp at ha, .z (sub r), Pres.refl, fun a ha => by simp at ha⟩
  | lst hp z r =>
    refine ⟨e.newOwn hp (fun _ q => nomatch q), fun a ha hg => ?_, .lst upd_same z (r.keep (keep_grow (O := fun _ => False) hp)), pres_new hp, fun a ha => by have : a = _ := List.mem_singleton.mp ha; subst this; exact hp⟩
    have : a = _ := List.mem_singleton.mp ha
    subst this
    exact e.notOwn hp (.inl hg)
  | dic hp =>
    refine ⟨e.newOwn hp (fun _ q => nomatch q), fun a ha hg => ?_, .dic (us := []) upd_same rfl rfl .nil, pres_new hp, fun a ha => by have : a = _ := List.mem_singleton.mp ha; subst this; exact hp⟩
    have : a = _ := List.mem_singleton.mp ha
    subst this
    exact e.notOwn hp (.inl hg)
  | tup hp z r => exact ⟨subE (e.new hp), fun a ha => by simp at ha, .z (sub (.tup (e.notOwn hp) upd_same z (r.keep (keep_new hp)))), pres_new hp, fun a ha => by simp at ha⟩
end

theorem szLine : sizeLine = SZ := sizeLine_eq
theorem sg_len (x : List Nat) : (Sg x).length = x.length := by show (x.toArray).size = _; simp
theorem sg_app (x y : List Nat) : Sg x ++ Sg y = Sg (x ++ y) := by
  show Str.mk _ = Str.mk _
  congr 1
  simp [Sg]

section
variable {X : Cx}
theorem mulOk_ok {i j : Int} (h : mulOk i j = true) : IntMulOk i j := by
  unfold mulOk at h
  simp only [Bool.or_eq_true, Bool.and_eq_true, decide_eq_true_eq] at h
  rcases h with (h | h) | h
  · exact CMul.ok (.inl h)
  · exact CMul.ok (.inr h)
  · exact CMulW.ok h
theorem op_mulA : OpR X (binaryOp .Mult) (rI (fun i j => IntMulOk i j) fun i j => .int (i * j)) := opI fun _ _ _ _ _ _ _ hc q => mul_int q hc
/-- one of the written operators -/
def rBin (K : PySem.W.Frag) (o : BOp) : R2 := fun x y H Q => ∃ O d1 d2 d, RZ K H O d1 x ∧ RZ K H O d2 y ∧ binop o d1 d2 = some d ∧ ∀ v H' f, Made K H O d v H' f → Q v H'
def opBack : BOp → Operator
  | .add => .Add
  | .sub => .Sub
  | .mul => .Mult
  | .fdiv => .FloorDiv
  | .mod => .Mod
  | .pow => .Pow
theorem opOf_back {op : Operator} {o : BOp} (h : opOf op = some o) : op = opBack o := by
  cases op <;> simp [opOf] at h <;> subst h <;> rfl
theorem op_bin : ∀ o : BOp, OpR X (binaryOp (opBack o)) (rBin X.K o)
  | .add => by
    intro pins s σ H x y v u Q I rx ry h
    obtain ⟨O, d1, d2, d, r1, r2, e, q⟩ := h
    cases r1 with
    | int i =>
      cases r2 <;> simp [binop] at e
      rename_i j
      subst e
      exact op_add pins s σ H _ _ v u Q I rx ry ⟨i, j, rfl, rfl, q _ _ _ (.same (.int _))⟩
    | str a =>
      cases r2 <;> simp [binop] at e
      rename_i b
      obtain ⟨hz, e⟩ := e
      subst e
      refine op_add_str pins s σ H _ _ v u Q I rx ry ⟨_, _, rfl, rfl, by rw [sg_len, sg_len, szLine]; exact hz, ?_⟩
      rw [sg_app]
      exact q _ _ _ (.same (.str _))
    | tup n1 e1 z1 s1 =>
      rename_i ds1 a1 vs1
      cases r2 <;> simp [binop] at e
      rename_i ds2 a2 vs2 n2 e2 z2 s2
      obtain ⟨hz, e⟩ := e
      subst e
      refine op_catA pins s σ H _ _ v u Q I rx ry ⟨_, _, vs1, vs2, rfl, rfl, SqT.of e1, SqT.of e2, by rw [← s1.len, ← s2.len, szLine]; exact hz, fun hx => ?_, fun hx hy => ?_, fun hx hy p hp => ?_⟩
      · subst hx
        cases s1
        exact q _ _ _ (.same (.tup n2 e2 z2 s2))
      · subst hy
        cases s2
        rw [List.append_nil] at q
        exact q _ _ _ (.same (.tup n1 e1 z1 s1))
      · exact q _ _ _ (.tup hp (by rw [List.length_append]; exact hz) (s1.append s2))
    | lst n1 e1 z1 s1 =>
      rename_i ds1 a1 vs1
      cases r2 <;> simp [binop] at e
      rename_i ds2 a2 vs2 n2 e2 z2 s2
      obtain ⟨hz, e⟩ := e
      subst e
      refine op_cat pins s σ H _ _ v u Q I rx ry ⟨_, _, vs1, vs2, rfl, rfl, e1, e2, by rw [← s1.len, ← s2.len, szLine]; exact hz, fun p hp => ?_⟩
      exact q _ _ _ (.lst hp (by rw [List.length_append]; exact hz) (s1.append s2))
    | _ => cases r2 <;> simp [binop] at e
  | .sub => by
    intro pins s σ H x y v u Q I rx ry h
    obtain ⟨O, d1, d2, d, r1, r2, e, q⟩ := h
    cases r1 with
    | int i =>
      cases r2 <;> simp [binop] at e
      rename_i j
      subst e
      exact op_sub pins s σ H _ _ v u Q I rx ry ⟨i, j, rfl, rfl, q _ _ _ (.same (.int _))⟩
    | _ => cases r2 <;> simp [binop] at e
  | .mul => by
    intro pins s σ H x y v u Q I rx ry h
    obtain ⟨O, d1, d2, d, r1, r2, e, q⟩ := h
    cases r1 with
    | int i =>
      cases r2 <;> simp [binop] at e
      rename_i j
      obtain ⟨hm, e⟩ := e
      subst e
      exact op_mulA pins s σ H _ _ v u Q I rx ry ⟨i, j, rfl, rfl, mulOk_ok hm, q _ _ _ (.same (.int _))⟩
    | lst n1 e1 z1 s1 =>
      rename_i ds1 a1 vs1
      cases r2 <;> simp [binop] at e
      rename_i k
      obtain ⟨⟨h1, h2, h3⟩, e⟩ := e
      subst e
      have hz : vs1.length * k.toNat ≤ sizeLine := by rw [← s1.len, szLine]; exact h3
      refine op_rep pins s σ H _ _ v u Q I rx ry ⟨_, k, vs1, rfl, rfl, e1, by omega, by omega, hz, fun p hp => ?_⟩
      refine q _ _ _ (.lst hp ?_ (s1.flat _))
      rw [List.length_flatten, List.map_replicate, List.sum_replicate_nat, Nat.mul_comm]
      exact h3
    | _ => cases r2 <;> simp [binop] at e
  | .fdiv => by
    intro pins s σ H x y v u Q I rx ry h
    obtain ⟨O, d1, d2, d, r1, r2, e, q⟩ := h
    cases r1 with
    | int i =>
      cases r2 <;> simp [binop, divOk] at e
      rename_i j
      obtain ⟨hm, e⟩ := e
      subst e
      exact op_fdivW pins s σ H _ _ v u Q I rx ry ⟨i, j, rfl, rfl, hm, q _ _ _ (.same (.int _))⟩
    | _ => cases r2 <;> simp [binop] at e
  | .mod => by
    intro pins s σ H x y v u Q I rx ry h
    obtain ⟨O, d1, d2, d, r1, r2, e, q⟩ := h
    cases r1 with
    | int i =>
      cases r2 <;> simp [binop] at e
      rename_i j
      obtain ⟨hm, e⟩ := e
      subst e
      exact op_mod pins s σ H _ _ v u Q I rx ry ⟨i, j, rfl, rfl, hm, q _ _ _ (.same (.int _))⟩
    | _ => cases r2 <;> simp [binop] at e
  | .pow => by
    intro pins s σ H x y v u Q I rx ry h
    obtain ⟨O, d1, d2, d, r1, r2, e, q⟩ := h
    cases r1 with
    | int i =>
      cases r2 <;> simp [binop] at e
      rename_i j
      obtain ⟨⟨h1, h2, h3⟩, e⟩ := e
      subst e
      exact op_pow pins s σ H _ _ v u Q I rx ry ⟨i, j, rfl, rfl, ⟨h1, h2, h3⟩, q _ _ _ (.same (.int _))⟩
    | _ => cases r2 <;> simp [binop] at e
end
end Sf
end
section
set_option Elab.async false
set_option maxRecDepth 100000
set_option linter.all false
/-! SfOps2: comparisons, items, slices, built-ins. -/
namespace Sf
open PySem PySem.Spec PyProof.Rows L2

section
variable {K : PySem.W.Frag} {H : Hp} {O : Addr → Prop}
/-! ### equality -/
def mE : D → PyData
  | .non => .none
  | .bl b => .bool b
  | .int i => .int i
  | .str x => .str (Sg x)
  | _ => .none
mutual
def toPy : D → PyData
  | .non => .none
  | .bl b => .bool b
  | .int i => .int i
  | .str x => .str (Sg x)
  | .tup xs => .tuple (toPys xs)
  | .lst _ xs => .list (toPys xs)
  | .dic _ _ _ => .none
  | .scr _ => .none
def toPys : List D → List PyData
  | [] => []
  | x :: xs => toPy x :: toPys xs
end
theorem sg_inj {x y : List Nat} : (Sg x == Sg y) = (x == y) := by
  rw [Bool.eq_iff_iff]
  simp [Sg]
mutual
theorem eqv_py : ∀ (n : Nat) (x y : D), x.shp n = true → y.shp n = true → D.eqv x y = PyData.eqv (toPy x) (toPy y)
  | n, .non, y, _, hy => by cases y <;> first | rfl | (cases n <;> simp [D.shp] at hy)
  | n, .bl b, y, _, hy => by cases y <;> first | rfl | (cases n <;> simp [D.shp] at hy)
  | n, .int i, y, _, hy => by cases y <;> first | rfl | (cases n <;> simp [D.shp] at hy)
  | n, .str x, y, _, hy => by
    cases y with
    | str z => show (x == z) = (Sg x == Sg z); rw [sg_inj]
    | _ => first | rfl | (cases n <;> simp [D.shp] at hy)
  | 0, .tup xs, _, hx, _ => by simp [D.shp] at hx
  | n + 1, .tup xs, y, hx, hy => by
    cases y with
    | tup ys => exact eqvs_py n xs ys (by simpa [D.shp] using hx) (by simpa [D.shp] using hy)
    | _ => first | rfl | simp [D.shp] at hy
  | 0, .lst _ xs, _, hx, _ => by simp [D.shp] at hx
  | n + 1, .lst _ xs, y, hx, hy => by
    cases y with
    | lst _ ys => exact eqvs_py n xs ys (by simpa [D.shp] using hx) (by simpa [D.shp] using hy)
    | _ => first | rfl | simp [D.shp] at hy
  | n, .dic _ _ _, _, hx, _ => by cases n <;> simp [D.shp] at hx
  | n, .scr _, _, hx, _ => by cases n <;> simp [D.shp] at hx
theorem eqvs_py : ∀ (n : Nat) (xs ys : List D), D.shps n xs = true → D.shps n ys = true → D.eqvs xs ys = PyData.eqvAll (toPys xs) (toPys ys)
  | n, [], [], _, _ => rfl
  | n, [], _ :: _, _, _ => rfl
  | n, _ :: _, [], _, _ => rfl
  | n, x :: xs, y :: ys, hx, hy => by
    simp only [D.shps, Bool.and_eq_true] at hx hy
    show (D.eqv x y && D.eqvs xs ys) = (PyData.eqv (toPy x) (toPy y) && PyData.eqvAll (toPys xs) (toPys ys))
    rw [eqv_py n x y hx.1 hy.1, eqvs_py n xs ys hx.2 hy.2]
end
mutual
theorem can_py : ∀ (n : Nat) (x : D), x.shp n = true → (toPy x).canLay0 = true ∧ (toPy x).depth ≤ n + 1
  | n, .non, _ => ⟨rfl, by simp [toPy, PyData.depth]⟩
  | n, .bl b, _ => ⟨rfl, by simp [toPy, PyData.depth]⟩
  | n, .int i, _ => ⟨rfl, by simp [toPy, PyData.depth]⟩
  | n, .str x, h => by
    refine ⟨?_, by simp [toPy, PyData.depth]⟩
    have h : (x.all fun c => decide (c < 55296)) = true := by cases n <;> simpa [D.shp] using h
    show PyData.strOk (Sg x) = true
    simp only [PyData.strOk, Sg, List.all_toArray, List.all_eq_true, decide_eq_true_eq] at h ⊢
    intro c hc
    have := h c hc
    omega
  | 0, .tup xs, h => by simp [D.shp] at h
  | n + 1, .tup xs, h => by
    have q := cans_py n xs (by simpa [D.shp] using h)
    exact ⟨q.1, by show PyData.depthAll (toPys xs) + 1 ≤ n + 1 + 1; omega⟩
  | 0, .lst _ xs, h => by simp [D.shp] at h
  | n + 1, .lst _ xs, h => by
    have q := cans_py n xs (by simpa [D.shp] using h)
    exact ⟨q.1, by show PyData.depthAll (toPys xs) + 1 ≤ n + 1 + 1; omega⟩
  | n, .dic _ _ _, h => by cases n <;> simp [D.shp] at h
  | n, .scr _, h => by cases n <;> simp [D.shp] at h
theorem cans_py : ∀ (n : Nat) (xs : List D), D.shps n xs = true → PyData.canLayAll0 (toPys xs) = true ∧ PyData.depthAll (toPys xs) ≤ n + 1
  | n, [], _ => ⟨rfl, by simp [toPys, PyData.depthAll]⟩
  | n, x :: xs, h => by
    simp only [D.shps, Bool.and_eq_true] at h
    have h1 := can_py n x h.1
    have h2 := cans_py n xs h.2
    refine ⟨by show ((toPy x).canLay0 && PyData.canLayAll0 (toPys xs)) = true; rw [h1.1, h2.1]; rfl, ?_⟩
    show max (toPy x).depth (PyData.depthAll (toPys xs)) ≤ n + 1
    omega
end
mutual
theorem RZ.dp : ∀ {n : Nat} {d : D} {v : V}, RZ K H O d v → d.shp n = true → Dp K H v (toPy d)
  | _, _, _, .non, _ => .non
  | _, _, _, .bl b, _ => .bl b
  | _, _, _, .int i, _ => .int i
  | _, _, _, .str x, _ => .str _
  | 0, _, _, .tup _ _ _ _, h => by simp [D.shp] at h
  | n + 1, _, _, .tup _ e _ r, h => .tup (SqT.of e) (RZs.dp (n := n) r (by simpa [D.shp] using h))
  | 0, _, _, .lst _ _ _ _, h => by simp [D.shp] at h
  | n + 1, _, _, .lst _ e _ r, h => .lst (SqL.of e) (RZs.dp (n := n) r (by simpa [D.shp] using h))
  | n, _, _, .scr _ _ _, h => by cases n <;> simp [D.shp] at h
  | n, _, _, .dic _ _ _ _ _, h => by cases n <;> simp [D.shp] at h
theorem RZs.dp : ∀ {n : Nat} {ds : List D} {vs : List V}, RZs K H O ds vs → D.shps n ds = true → DpAll K H vs (toPys ds)
  | _, _, _, .nil, _ => .nil
  | n, _, _, .cons a b, h => by
    simp only [D.shps, Bool.and_eq_true] at h
    exact .cons (RZ.dp a h.1) (RZs.dp b h.2)
end
theorem RO.dp {n : Nat} {d : D} {v : V} {f : List Addr} (r : RO K H O d v f) (h : d.shp n = true) : Dp K H v (toPy d) := by
  cases r with
  | z r => exact r.dp h
  | lst e z r =>
    cases n with
    | zero => simp [D.shp] at h
    | succ n => exact .lst (SqL.of e) (r.dp (n := n) (by simpa [D.shp] using h))
  | dic e q u r => cases n <;> simp [D.shp] at h
theorem shaped_of {d : D} (h : d.shp 60 = true) : SeqAt.shaped (toPy d) = true := by
  have q := can_py 60 d h
  unfold SeqAt.shaped
  rw [q.1, decide_eq_true (by omega)]
  rfl
theorem RO.flatV {d : D} {v : V} {f : List Addr} (r : RO K H O d v f) (h : d.flat = true) : flatV v = true := by
  cases r with
  | z r => cases r <;> first | rfl | simp [D.flat] at h
  | lst => simp [D.flat] at h
  | dic => simp [D.flat] at h
theorem scal_of {d e : D} {v u : V} {f g : List Addr} (r : RO K H O d v f) (s : RO K H O e u g) (h : D.scal d e = true) : scal v u = true ∧ decide (v = u) = D.eqv d e := by
  cases r with
  | lst => cases s <;> simp [D.scal, D.flat] at h
  | dic => cases s <;> simp [D.scal, D.flat] at h
  | z r =>
    cases s with
    | lst => cases r <;> simp [D.scal, D.flat] at h
    | dic => cases r <;> simp [D.scal, D.flat] at h
    | z s =>
      cases r <;> cases s <;> first
        | (simp [D.scal, D.flat] at h; done)
        | exact ⟨rfl, by rw [Bool.eq_iff_iff]; simp [D.eqv, Sg]⟩
theorem RZ.eqv {d e : D} {v u : V} (r : RZ K H O d v) (s : RZ K H O e u) (h : d.flat = true) (h' : e.flat = true) : eqV v u = D.eqv d e := by
  cases r <;> cases s <;> first
    | (simp [D.flat] at h; done)
    | (simp [D.flat] at h'; done)
    | rfl
    | (rw [Bool.eq_iff_iff]; simp [eqV, D.eqv, Sg]; done)
theorem RZs.inv {d : D} {v : V} (s : RZ K H O d v) (h : d.flat = true) : ∀ {ds : List D} {vs : List V}, RZs K H O ds vs → ds.all D.flat = true → inV v vs = hasD d ds ∧ vs.all flatV = true
  | _, _, .nil, _ => ⟨rfl, rfl⟩
  | _, _, .cons (d := x) (v := w) (ds := xs) (vs := ws) r t, q => by
    simp only [List.all_cons, Bool.and_eq_true] at q
    obtain ⟨h1, h2⟩ := RZs.inv s h t q.2
    refine ⟨?_, ?_⟩
    · show (eqV w v || inV v ws) = (D.eqv x d || hasD d xs)
      rw [h1, r.eqv s q.1 h]
    · rw [List.all_cons, h2, (RO.z r).flatV q.1]; rfl

/-! ### keys -/
theorem kparts_V : ∀ {ds : List D} {vs : List V} {k : List Key}, RZs K H O ds vs → kparts ds = some k → vs = k.map kV
  | _, _, k, .nil, e => by cases e; rfl
  | _, _, k, .cons (d := d) (v := v) (ds := ds) r t, e => by
    unfold kparts at e
    cases hd : kpart d with
    | none => rw [hd] at e; cases e
    | some a =>
      rw [hd] at e
      cases hr : kparts ds with
      | none => rw [hr] at e; cases e
      | some b =>
        rw [hr] at e
        cases e
        rw [List.map_cons, kparts_V t hr]
        congr 1
        cases r <;> simp [kpart] at hd <;> subst hd <;> rfl
theorem keyOk_q : ∀ {d : D}, d.keyOk = true → ∃ k, keyQ d = some k
  | .tup xs, h => by
    have go : ∀ xs : List D, (xs.all fun d => match d with | .int _ => true | .str _ => true | _ => false) = true → ∃ k, kparts xs = some k := by
      intro xs
      induction xs with
      | nil => intro _; exact ⟨[], rfl⟩
      | cons x xs ih =>
        intro h
        simp only [List.all_cons, Bool.and_eq_true] at h
        obtain ⟨k, hk⟩ := ih h.2
        cases x <;> simp at h <;> exact ⟨_, by simp [kparts, kpart, hk]; rfl⟩
    exact go xs h
  | .non, h => by simp [D.keyOk] at h
  | .bl _, h => by simp [D.keyOk] at h
  | .int _, h => by simp [D.keyOk] at h
  | .str _, h => by simp [D.keyOk] at h
  | .lst _ _, h => by simp [D.keyOk] at h
  | .dic _ _ _, h => by simp [D.keyOk] at h
  | .scr _, h => by simp [D.keyOk] at h
theorem kpart_eqv {d e : D} {a b : Key} (h : kpart d = some a) (h' : kpart e = some b) : D.eqv d e = decide (a = b) := by
  cases d <;> simp [kpart] at h <;> cases e <;> simp [kpart] at h' <;> subst h <;> subst h' <;> first
    | (rw [Bool.eq_iff_iff]; simp [D.eqv, Sg]; done)
    | (simp [D.eqv]; done)
theorem kparts_eqv : ∀ {ds es : List D} {a b : List Key}, kparts ds = some a → kparts es = some b → D.eqvs ds es = decide (a = b)
  | [], [], a, b, h, h' => by cases h; cases h'; rfl
  | [], e :: es, a, b, h, h' => by
    cases h
    unfold kparts at h'
    cases he : kpart e with
    | none => rw [he] at h'; cases h'
    | some x => rw [he] at h'; cases hr : kparts es <;> rw [hr] at h' <;> cases h'; rfl
  | d :: ds, [], a, b, h, h' => by
    cases h'
    unfold kparts at h
    cases he : kpart d with
    | none => rw [he] at h; cases h
    | some x => rw [he] at h; cases hr : kparts ds <;> rw [hr] at h <;> cases h; rfl
  | d :: ds, e :: es, a, b, h, h' => by
    unfold kparts at h h'
    cases hd : kpart d with
    | none => rw [hd] at h; cases h
    | some x =>
      cases he : kpart e with
      | none => rw [he] at h'; cases h'
      | some y =>
        rw [hd] at h; rw [he] at h'
        cases hds : kparts ds with
        | none => rw [hds] at h; cases h
        | some xs =>
          cases hes : kparts es with
          | none => rw [hes] at h'; cases h'
          | some ys =>
            rw [hds] at h; rw [hes] at h'
            cases h; cases h'
            show (D.eqv d e && D.eqvs ds es) = _
            rw [kpart_eqv hd he, kparts_eqv hds hes, Bool.eq_iff_iff]
            simp
theorem keyQ_eqv {d e : D} {a b : List Key} (h : keyQ d = some a) (h' : keyQ e = some b) : D.eqv d e = decide (a = b) := by
  cases d <;> simp [keyQ] at h
  cases e <;> simp [keyQ] at h'
  exact kparts_eqv h h'
/-- the dict's keys as the heap has them -/
theorem hasD_val {d : D} {k : List Key} (h : keyQ d = some k) : ∀ {ks : List D} {kvs : List (List Key × V)}, ks.map keyQ = kvs.map (fun p => some p.1) → hasD d ks = (valV kvs k).isSome
  | [], [], _ => rfl
  | [], _ :: _, e => by simp at e
  | _ :: _, [], e => by simp at e
  | x :: xs, p :: ps, e => by
    simp only [List.map_cons, List.cons.injEq] at e
    have ih := hasD_val h e.2
    show (D.eqv x d || hasD d xs) = _
    rw [keyQ_eqv e.1 h, ih]
    by_cases q : p.1 = k
    · rw [valV_pos q, decide_eq_true q]; rfl
    · rw [valV_neg q, decide_eq_false q]; rfl
theorem putq_val {d x : D} {k : List Key} {v : V} (h : keyQ d = some k) {ks vs : List D} {kvs : List (List Key × V)} (e : ks.map keyQ = kvs.map (fun p => some p.1)) (r : RZs K H O vs (kvs.map (·.2))) (rx : RZ K H O x v) :
    (putq d x ks vs).1.map keyQ = (putK kvs k v).map (fun p => some p.1) ∧ RZs K H O (putq d x ks vs).2 ((putK kvs k v).map (·.2)) := by
  have hq := hasD_val h e
  unfold putq putK
  rw [hq, valV_any]
  by_cases c : (valV kvs k).isSome = true
  · rw [if_pos c, if_pos c]
    refine ⟨?_, ?_⟩
    · rw [e, List.map_map]
      refine List.map_congr_left fun p _ => ?_
      show some p.1 = some (if p.1 = k then (p.1, v) else p).1
      by_cases z : p.1 = k
      · rw [if_pos z]
      · rw [if_neg z]
    · clear hq c
      induction kvs generalizing ks vs with
      | nil =>
        cases ks with
        | nil => cases r; exact .nil
        | cons _ _ => simp at e
      | cons p ps ih =>
        cases ks with
        | nil => simp at e
        | cons a as =>
          simp only [List.map_cons, List.cons.injEq] at e
          cases r with
          | cons r1 r2 =>
            simp only [List.zipWith_cons_cons, List.map_cons]
            refine .cons ?_ (ih e.2 r2)
            rw [keyQ_eqv e.1 h]
            by_cases z : p.1 = k
            · rw [if_pos z, decide_eq_true z, if_pos rfl]; exact rx
            · rw [if_neg z, decide_eq_false z, if_neg (by decide)]; exact r1
  · rw [if_neg c, if_neg c]
    refine ⟨by rw [List.map_append, List.map_append, e]; simp [h], ?_⟩
    rw [List.map_append]
    exact r.append (.cons rx .nil)
end

/-! ### comparisons -/
section
variable {X : Cx}
def cpBack : COp → CmpOp
  | .eq => .Eq
  | .ne => .NotEq
  | .lt => .Lt
  | .le => .LtE
  | .gt => .Gt
  | .ge => .GtE
  | .is => .Is
  | .isnt => .IsNot
  | .isin => .In
  | .notin => .NotIn
theorem cpOf_back (op : CmpOp) : cpBack (cpOf op) = op := by cases op <;> rfl
def rCmp (K : PySem.W.Frag) (o : COp) : R2 := fun x y H Q => ∃ O d1 d2 f1 f2 k, RO K H O d1 x f1 ∧ RO K H O d2 y f2 ∧ cmpop o d1 d2 = some k ∧ Q (.bl k) H
theorem op_dIn (hu : X.A.units + 64 < cLine) : OpR X (compareOp .In) (fun x y H Q => ∃ a o, y = .ref a ∧ DGet H a x o ∧ Q (.bl o.isSome) H) := by
  intro pins s σ H x y v u Q I rx ry h
  obtain ⟨a, o, rfl, g, q⟩ := h
  cases ry
  exact d_in (by omega) I g rx fun s' I' => ⟨.bl o.isSome, H, I', rfl, q⟩
theorem op_dNotIn (hu : X.A.units + 64 < cLine) : OpR X (compareOp .NotIn) (fun x y H Q => ∃ a o, y = .ref a ∧ DGet H a x o ∧ Q (.bl (!o.isSome)) H) := by
  intro pins s σ H x y v u Q I rx ry h
  obtain ⟨a, o, rfl, g, q⟩ := h
  cases ry
  exact d_notIn (by omega) I g rx fun s' I' => ⟨.bl (!o.isSome), H, I', rfl, q⟩
theorem RO.int_inv {K : PySem.W.Frag} {H : Hp} {O : Addr → Prop} {i : Int} {v : V} {f : List Addr} (h : RO K H O (.int i) v f) : v = .int i := by
  cases h with
  | z r => exact r.int_inv
theorem RO.seq {K : PySem.W.Frag} {H : Hp} {O : Addr → Prop} {o : Bool} {ds : List D} {v : V} {f : List Addr} (h : RO K H O (.lst o ds) v f) : ∃ a vs, v = .ref a ∧ H a = some (.lst vs) ∧ ds.length ≤ SZ ∧ RZs K H O ds vs := by
  cases h with
  | lst e z r => exact ⟨_, _, rfl, e, z, r⟩
  | z r => cases r with
    | lst n e z r => exact ⟨_, _, rfl, e, z, r⟩
theorem RO.tupl {K : PySem.W.Frag} {H : Hp} {O : Addr → Prop} {ds : List D} {v : V} {f : List Addr} (h : RO K H O (.tup ds) v f) : ∃ a vs, v = .ref a ∧ H a = some (.tup vs) ∧ ds.length ≤ SZ ∧ RZs K H O ds vs := by
  cases h with
  | z r => cases r with
    | tup n e z r => exact ⟨_, _, rfl, e, z, r⟩
theorem RO.dict {K : PySem.W.Frag} {H : Hp} {O : Addr → Prop} {o : Bool} {ks vs : List D} {v : V} {f : List Addr} (h : RO K H O (.dic o ks vs) v f) : ∃ a kvs, v = .ref a ∧ H a = some (.dT kvs) ∧ ks.map keyQ = kvs.map (fun p => some p.1) ∧ RZs K H O vs (kvs.map (·.2)) := by
  cases h with
  | dic e q u r => subst u; exact ⟨_, _, rfl, e, q, r⟩
  | z r => cases r with
    | dic n e q u r => subst u; exact ⟨_, _, rfl, e, q, r⟩
theorem RO.scri {K : PySem.W.Frag} {H : Hp} {O : Addr → Prop} {ds : List D} {v : V} {f : List Addr} (h : RO K H O (.scr ds) v f) : ∃ a vs, v = .ref a ∧ Fro K H O a vs ∧ ds.length ≤ SZ ∧ RZs K H O ds vs := by
  cases h with
  | z r => cases r with
    | scr e z r => exact ⟨_, _, rfl, e, z, r⟩
theorem RO.key {K : PySem.W.Frag} {H : Hp} {O : Addr → Prop} {d : D} {v : V} {f : List Addr} (h : RO K H O d v f) (hk : d.keyOk = true) : ∃ k b, keyQ d = some k ∧ v = .ref b ∧ H b = some (.tup (k.map kV)) := by
  obtain ⟨k, e⟩ := keyOk_q hk
  cases d <;> simp [D.keyOk] at hk
  obtain ⟨a, vs, rfl, h1, _, r⟩ := h.tupl
  exact ⟨k, a, e, rfl, by rw [h1, kparts_V r e]⟩
theorem op_cmp (hu : X.A.units + 64 < cLine) : ∀ o : COp, OpR X (compareOp (cpBack o)) (rCmp X.K o)
  | .eq => by
    intro pins s σ H x y v u Q I rx ry h
    obtain ⟨O, d1, d2, f1, f2, k, r1, r2, e, q⟩ := h
    simp only [cmpop, Option.ite_none_right_eq_some, Option.some.injEq] at e
    obtain ⟨e1, e2⟩ := e
    subst e2
    unfold D.eqOk at e1
    rw [Bool.or_eq_true] at e1
    rcases e1 with e1 | e1
    · obtain ⟨h1, h2⟩ := scal_of r1 r2 e1
      exact op_eq pins s σ H x y v u Q I rx ry ⟨h1, by rw [h2]; exact q⟩
    · rw [Bool.and_eq_true] at e1
      exact op_eqD hu pins s σ H x y v u Q I rx ry ⟨_, _, r1.dp e1.1, r2.dp e1.2, shaped_of e1.1, shaped_of e1.2, by rw [← eqv_py 60 d1 d2 e1.1 e1.2]; exact q⟩
  | .ne => by
    intro pins s σ H x y v u Q I rx ry h
    obtain ⟨O, d1, d2, f1, f2, k, r1, r2, e, q⟩ := h
    simp only [cmpop, Option.ite_none_right_eq_some, Option.some.injEq] at e
    obtain ⟨e1, e2⟩ := e
    subst e2
    unfold D.eqOk at e1
    rw [Bool.or_eq_true] at e1
    rcases e1 with e1 | e1
    · obtain ⟨h1, h2⟩ := scal_of r1 r2 e1
      exact op_ne pins s σ H x y v u Q I rx ry ⟨h1, by rw [h2]; exact q⟩
    · rw [Bool.and_eq_true] at e1
      exact op_neD hu pins s σ H x y v u Q I rx ry ⟨_, _, r1.dp e1.1, r2.dp e1.2, shaped_of e1.1, shaped_of e1.2, by rw [← eqv_py 60 d1 d2 e1.1 e1.2]; exact q⟩
  | .lt => by
    intro pins s σ H x y v u Q I rx ry h
    obtain ⟨O, d1, d2, f1, f2, k, r1, r2, e, q⟩ := h
    cases d1 <;> cases d2 <;> simp [cmpop] at e
    subst e
    exact op_lt pins s σ H x y v u Q I rx ry ⟨_, _, r1.int_inv, r2.int_inv, q⟩
  | .le => by
    intro pins s σ H x y v u Q I rx ry h
    obtain ⟨O, d1, d2, f1, f2, k, r1, r2, e, q⟩ := h
    cases d1 <;> cases d2 <;> simp [cmpop] at e
    subst e
    exact op_le pins s σ H x y v u Q I rx ry ⟨_, _, r1.int_inv, r2.int_inv, q⟩
  | .gt => by
    intro pins s σ H x y v u Q I rx ry h
    obtain ⟨O, d1, d2, f1, f2, k, r1, r2, e, q⟩ := h
    cases d1 <;> cases d2 <;> simp [cmpop] at e
    subst e
    exact op_gt pins s σ H x y v u Q I rx ry ⟨_, _, r1.int_inv, r2.int_inv, q⟩
  | .ge => by
    intro pins s σ H x y v u Q I rx ry h
    obtain ⟨O, d1, d2, f1, f2, k, r1, r2, e, q⟩ := h
    cases d1 <;> cases d2 <;> simp [cmpop] at e
    subst e
    exact op_ge pins s σ H x y v u Q I rx ry ⟨_, _, r1.int_inv, r2.int_inv, q⟩
  | .is => by
    intro pins s σ H x y v u Q I rx ry h
    obtain ⟨O, d1, d2, f1, f2, k, r1, r2, e, q⟩ := h
    cases d2 <;> simp [cmpop] at e
    have ey : y = .non := by cases r2 with | z r => cases r; rfl
    refine op_isN pins s σ H x y v u Q I rx ry ⟨ey, ?_⟩
    subst e
    cases r1 with
    | z r => cases r <;> exact q
    | lst => exact q
    | dic => exact q
  | .isnt => by
    intro pins s σ H x y v u Q I rx ry h
    obtain ⟨O, d1, d2, f1, f2, k, r1, r2, e, q⟩ := h
    cases d2 <;> simp [cmpop] at e
    have ey : y = .non := by cases r2 with | z r => cases r; rfl
    refine op_notN pins s σ H x y v u Q I rx ry ⟨ey, ?_⟩
    subst e
    cases r1 with
    | z r => cases r <;> exact q
    | lst => exact q
    | dic => exact q
  | .isin => by
    intro pins s σ H x y v u Q I rx ry h
    obtain ⟨O, d1, d2, f1, f2, k, r1, r2, e, q⟩ := h
    cases d2 <;> simp only [cmpop, Option.ite_none_right_eq_some, Option.some.injEq, Bool.and_eq_true, reduceCtorEq] at e
    · obtain ⟨⟨e1, e2⟩, e3⟩ := e
      obtain ⟨a, vs, rfl, h1, _, r⟩ := r2.tupl
      have z1 := (r1.zof (by cases d1 <;> first | rfl | simp [D.flat] at e1)).1
      obtain ⟨h2, h3⟩ := r.inv z1 e1 e2
      refine op_in_seq pins s σ H _ _ v u Q I rx ry ⟨a, vs, rfl, .inr (SqT.of h1), r1.flatV e1, h3, ?_⟩
      rw [if_neg (by decide), h2, e3]; exact q
    · obtain ⟨⟨e1, e2⟩, e3⟩ := e
      obtain ⟨a, vs, rfl, h1, _, r⟩ := r2.seq
      have z1 := (r1.zof (by cases d1 <;> first | rfl | simp [D.flat] at e1)).1
      obtain ⟨h2, h3⟩ := r.inv z1 e1 e2
      refine op_in_seq pins s σ H _ _ v u Q I rx ry ⟨a, vs, rfl, .inl (SqL.of h1), r1.flatV e1, h3, ?_⟩
      rw [if_neg (by decide), h2, e3]; exact q
    · obtain ⟨e1, e2⟩ := e
      obtain ⟨kk, b, ek, rfl, hb⟩ := r1.key e1
      obtain ⟨a, kvs, rfl, h1, h2, _⟩ := r2.dict
      refine op_dIn hu pins s σ H _ _ v u Q I rx ry ⟨a, _, rfl, DGet.t h1 hb, ?_⟩
      rw [← hasD_val ek h2, e2]; exact q
  | .notin => by
    intro pins s σ H x y v u Q I rx ry h
    obtain ⟨O, d1, d2, f1, f2, k, r1, r2, e, q⟩ := h
    cases d2 <;> simp only [cmpop, Option.ite_none_right_eq_some, Option.some.injEq, Bool.and_eq_true, reduceCtorEq] at e
    · obtain ⟨⟨e1, e2⟩, e3⟩ := e
      obtain ⟨a, vs, rfl, h1, _, r⟩ := r2.tupl
      have z1 := (r1.zof (by cases d1 <;> first | rfl | simp [D.flat] at e1)).1
      obtain ⟨h2, h3⟩ := r.inv z1 e1 e2
      refine op_notIn_seq pins s σ H _ _ v u Q I rx ry ⟨a, vs, rfl, .inr (SqT.of h1), r1.flatV e1, h3, ?_⟩
      rw [if_pos rfl, h2, e3]; exact q
    · obtain ⟨⟨e1, e2⟩, e3⟩ := e
      obtain ⟨a, vs, rfl, h1, _, r⟩ := r2.seq
      have z1 := (r1.zof (by cases d1 <;> first | rfl | simp [D.flat] at e1)).1
      obtain ⟨h2, h3⟩ := r.inv z1 e1 e2
      refine op_notIn_seq pins s σ H _ _ v u Q I rx ry ⟨a, vs, rfl, .inl (SqL.of h1), r1.flatV e1, h3, ?_⟩
      rw [if_pos rfl, h2, e3]; exact q
    · obtain ⟨e1, e2⟩ := e
      obtain ⟨kk, b, ek, rfl, hb⟩ := r1.key e1
      obtain ⟨a, kvs, rfl, h1, h2, _⟩ := r2.dict
      refine op_dNotIn hu pins s σ H _ _ v u Q I rx ry ⟨a, _, rfl, DGet.t h1 hb, ?_⟩
      rw [← hasD_val ek h2, e2]; exact q
end
end Sf
end
section
set_option Elab.async false
set_option maxRecDepth 100000
set_option linter.all false
/-! SfOps3: items, slices, built-ins. -/
namespace Sf
open PySem PySem.Spec PyProof.Rows L2

theorem ixq_ixN (n : Nat) (i : Int) : ixq n i = ixN n i := rfl
theorem atq_at {K : PySem.W.Frag} {H : Hp} {O : Addr → Prop} {ds : List D} {vs : List V} {i : Int} {d : D} (r : RZs K H O ds vs) (h : atq ds i = some d) : ∃ v, atI vs i = some v ∧ RZ K H O d v := by
  unfold atq at h
  unfold atI
  rw [← r.len, ← ixq_ixN]
  cases e : ixq ds.length i with
  | none => rw [e] at h; cases h
  | some j =>
    rw [e] at h
    exact r.get (show ds[j]? = some d from h)
theorem six_sIx (n d : Nat) (x : Option Int) : six n d x = HT.sIx n d x := by cases x <;> rfl
theorem cut_cutV {K : PySem.W.Frag} {H : Hp} {O : Addr → Prop} {ds : List D} {vs : List V} (lo hi : Option Int) (r : RZs K H O ds vs) : RZs K H O (cut ds lo hi) (cutV vs lo hi) := by
  unfold cut cutV
  rw [six_sIx, six_sIx, r.len]
  exact (r.drop _).take _
theorem cut_len {α : Type} (xs : List α) (lo hi : Option Int) : (cut xs lo hi).length ≤ xs.length := by
  unfold cut
  rw [List.length_take, List.length_drop]
  omega

section
variable {X : Cx}
/-- an item -/
def rIdx (K : PySem.W.Frag) : R2 := fun x y H Q => ∃ O d1 d2 f1 d, RO K H O d1 x f1 ∧ RZ K H O d2 y ∧ idx d1 d2 = some d ∧ ∀ v, RZ K H O d v → Q v H
theorem ix_any : IxR X (rIdx X.K) := by
  intro value slice pins s σ H x y v u Q I rx ry h hs
  obtain ⟨O, d1, d2, f1, d, r1, r2, e, q⟩ := h
  cases d1 <;> cases d2 <;> simp only [idx, reduceCtorEq] at e
  · obtain ⟨a, vs, rfl, h1, _, r⟩ := r1.tupl
    obtain ⟨w, hw, rw'⟩ := atq_at r e
    exact ix_tup value slice pins s σ H _ _ v u Q I rx ry ⟨a, vs, _, w, rfl, r2.int_inv, SqT.of h1, hw, q w rw'⟩ hs
  · obtain ⟨a, vs, rfl, h1, _, r⟩ := r1.seq
    obtain ⟨w, hw, rw'⟩ := atq_at r e
    exact ix_list value slice pins s σ H _ _ v u Q I rx ry ⟨a, vs, _, w, rfl, r2.int_inv, SqL.of h1, hw, q w rw'⟩ hs
/-- a slice -/
def rSlq (K : PySem.W.Frag) : V → Option Int → Option Int → Hp → VK → Prop := fun x lo hi H Q => ∃ O d1 f1 d, RO K H O d1 x f1 ∧ slq d1 lo hi = some d ∧ ∀ v H' f, Made K H O d v H' f → Q v H'
theorem sl_any : SlR X (rSlq X.K) := by
  intro pins s σ H x v vl vu lo hi sl Q I rx hs pl pu h
  obtain ⟨O, d1, f1, d, r1, e, q⟩ := h
  cases d1 <;> simp only [slq, reduceCtorEq, Option.some.injEq, Option.ite_none_right_eq_some] at e
  · obtain ⟨hz, e⟩ := e
    subst e
    rename_i xs
    have ex : x = .str (Sg xs) := by cases r1 with | z r => exact r.str_inv
    refine sl_str pins s σ H x v vl vu lo hi sl Q I rx hs pl pu ⟨_, ex, by rw [sg_len, szLine]; exact hz, ?_⟩
    have e2 : cutS (Sg xs) lo hi = Sg (cut xs lo hi) := by
      unfold cutS cut
      rw [six_sIx, six_sIx]
      show Str.mk _ = Str.mk _
      simp [Sg, sg_len, PySem.Str.length]
    rw [e2]
    exact q _ _ _ (.same (.str _))
  · subst e
    obtain ⟨a, vs, rfl, h1, hz, r⟩ := r1.tupl
    refine sl_tupA pins s σ H _ v vl vu lo hi sl Q I rx hs pl pu ⟨a, vs, rfl, SqT.of h1, fun hw => ?_, fun hw p hp => ?_⟩
    · have e3 : cut ‹List D› lo hi = ‹List D› := by
        unfold cut
        rw [six_sIx, six_sIx, r.len, hw.1, hw.2]
        simp [← r.len]
      rw [e3] at q
      cases r1 with
      | z r' => exact q _ _ _ (.same r')
    · exact q _ _ _ (.tup hp (Nat.le_trans (cut_len _ _ _) hz) (cut_cutV lo hi r))
  · subst e
    obtain ⟨a, vs, rfl, h1, hz, r⟩ := r1.seq
    exact sl_list pins s σ H _ v vl vu lo hi sl Q I rx hs pl pu ⟨a, vs, rfl, SqL.of h1, fun p hp => q _ _ _ (.lst hp (Nat.le_trans (cut_len _ _ _) hz) (cut_cutV lo hi r))⟩

/-! ### built-ins -/
def rBi (K : PySem.W.Frag) (b : Bi) : List V → Hp → VK → Prop := fun xs H Q => ∃ O x d1 f1 d, xs = [x] ∧ RO K H O d1 x f1 ∧ bltf b d1 = some d ∧ ∀ v H' f, Made K H O d v H' f → Q v H'
theorem RO.strI {K : PySem.W.Frag} {H : Hp} {O : Addr → Prop} {x : List Nat} {v : V} {f : List Addr} (h : RO K H O (.str x) v f) : v = .str (Sg x) := by
  cases h with | z r => exact r.str_inv
theorem RO.blI {K : PySem.W.Frag} {H : Hp} {O : Addr → Prop} {x : Bool} {v : V} {f : List Addr} (h : RO K H O (.bl x) v f) : v = .bl x := by
  cases h with | z r => exact r.bl_inv
theorem call_lenA : CallR X (.builtin "len") (rBi X.K .len) := by
  intro pins s σ H xs us Q I r h
  obtain ⟨O, x, d1, f1, d, rfl, r1, e, q⟩ := h
  have fin : ∀ n : Nat, LenV X.K x H n → d = .int n → wpAny (model X.prog X.w) X.A (call (.builtin "len") us) (EP X pins σ Q) X.xe s := fun n hl hd =>
    call_len pins s σ H _ us Q I r ⟨x, n, rfl, hl, by subst hd; exact q _ _ _ (.same (.int _))⟩
  cases d1 <;> simp only [bltf, reduceCtorEq, Option.some.injEq, Option.ite_none_right_eq_some] at e
  · obtain ⟨hz, e⟩ := e
    have ex := r1.strI
    subst ex
    exact fin _ ⟨by rw [sg_len, szLine]; exact hz, (sg_len _).symm⟩ e.symm
  · obtain ⟨a, vs, rfl, h1, hz, rr⟩ := r1.tupl
    exact fin _ (.inr ⟨vs, SqT.of h1, rr.len⟩) e.symm
  · obtain ⟨a, vs, rfl, h1, hz, rr⟩ := r1.seq
    exact fin _ (.inl ⟨vs, SqL.of h1, rr.len⟩) e.symm
  · obtain ⟨a, vs, rfl, h1, hz, rr⟩ := r1.scri
    exact fin _ (.inl ⟨vs, h1.sq, rr.len⟩) e.symm
theorem call_absA : CallR X (.builtin "abs") (rBi X.K .abs) := by
  intro pins s σ H xs us Q I r h
  obtain ⟨O, x, d1, f1, d, rfl, r1, e, q⟩ := h
  cases d1 <;> simp only [bltf, reduceCtorEq, Option.some.injEq] at e
  subst e
  have ex := r1.int_inv
  subst ex
  exact call_abs pins s σ H _ us Q I r ⟨_, rfl, q _ _ _ (.same (.int _))⟩
theorem call_intA : CallR X (.type "int") (rBi X.K .int) := by
  intro pins s σ H xs us Q I r h
  obtain ⟨O, x, d1, f1, d, rfl, r1, e, q⟩ := h
  cases d1 <;> simp only [bltf, reduceCtorEq, Option.some.injEq] at e
  · subst e
    have ex := r1.blI
    subst ex
    exact call_int1 pins s σ H _ us Q I r (.inr ⟨_, rfl, q _ _ _ (.same (.int _))⟩)
  · subst e
    have ex := r1.int_inv
    subst ex
    exact call_int1 pins s σ H _ us Q I r (.inl ⟨_, rfl, q _ _ _ (.same (.int _))⟩)
theorem call_listA : CallR X (.type "list") (rBi X.K .list) := by
  intro pins s σ H xs us Q I r h
  obtain ⟨O, x, d1, f1, d, rfl, r1, e, q⟩ := h
  cases d1 <;> simp only [bltf, reduceCtorEq, Option.some.injEq] at e
  · subst e
    obtain ⟨a, vs, rfl, h1, hz, rr⟩ := r1.tupl
    exact call_list_of pins s σ H _ us Q I r ⟨a, vs, rfl, .inr (SqT.of h1), fun p hp => q _ _ _ (.lst hp hz rr)⟩
  · subst e
    obtain ⟨a, vs, rfl, h1, hz, rr⟩ := r1.seq
    exact call_list_of pins s σ H _ us Q I r ⟨a, vs, rfl, .inl (SqL.of h1), fun p hp => q _ _ _ (.lst hp hz rr)⟩
  · subst e
    obtain ⟨a, vs, rfl, h1, hz, rr⟩ := r1.scri
    exact call_list_of pins s σ H _ us Q I r ⟨a, vs, rfl, .inl h1.sq, fun p hp => q _ _ _ (.lst hp hz rr)⟩
theorem call_tupleA : CallR X (.type "tuple") (rBi X.K .tuple) := by
  intro pins s σ H xs us Q I r h
  obtain ⟨O, x, d1, f1, d, rfl, r1, e, q⟩ := h
  cases d1 <;> simp only [bltf, reduceCtorEq, Option.some.injEq] at e
  · subst e
    have r1' := r1
    obtain ⟨a, vs, rfl, h1, hz, rr⟩ := r1.tupl
    cases r1' with
    | z r' => exact call_tuple_of pins s σ H _ us Q I r ⟨a, vs, rfl, .inr ⟨SqT.of h1, q _ _ _ (.same r')⟩⟩
  · subst e
    obtain ⟨a, vs, rfl, h1, hz, rr⟩ := r1.seq
    exact call_tuple_of pins s σ H _ us Q I r ⟨a, vs, rfl, .inl ⟨SqL.of h1, fun p hp => q _ _ _ (.tup hp hz rr)⟩⟩
theorem insI_perm (i : Int) : ∀ js : List Int, (insI i js).Perm (i :: js)
  | [] => List.Perm.refl _
  | j :: js => by
    unfold insI
    split
    · exact List.Perm.refl _
    · exact ((insI_perm i js).cons j).trans (List.Perm.swap i j js)
theorem insI_le (i : Int) : ∀ js : List Int, js.Pairwise (· ≤ ·) → (insI i js).Pairwise (· ≤ ·)
  | [], _ => by simp [insI]
  | j :: js, h => by
    unfold insI
    rw [List.pairwise_cons] at h
    split
    · rename_i hij
      rw [List.pairwise_cons]
      refine ⟨fun a ha => ?_, by rw [List.pairwise_cons]; exact h⟩
      rcases List.mem_cons.mp ha with e | ha
      · subst e; exact hij
      · exact Int.le_trans hij (h.1 a ha)
    · rename_i hij
      rw [List.pairwise_cons]
      refine ⟨fun a ha => ?_, insI_le i js h.2⟩
      rcases List.mem_cons.mp ((insI_perm i js).mem_iff.mp ha) with e | ha
      · subst e; omega
      · exact h.1 a ha
theorem sortI_perm : ∀ xs : List Int, (sortI xs).Perm xs
  | [] => List.Perm.refl _
  | x :: xs => (insI_perm x _).trans ((sortI_perm xs).cons x)
theorem sortI_le : ∀ xs : List Int, (sortI xs).Pairwise (· ≤ ·)
  | [] => List.Pairwise.nil
  | x :: xs => insI_le x _ (sortI_le xs)
theorem sorted_uniq : ∀ {xs ys : List Int}, xs.Perm ys → xs.Pairwise (· ≤ ·) → ys.Pairwise (· ≤ ·) → xs = ys
  | [], ys, p, _, _ => by have := p.length_eq; cases ys <;> simp_all
  | x :: xs, [], p, _, _ => by have := p.length_eq; simp at this
  | x :: xs, y :: ys, p, h1, h2 => by
    rw [List.pairwise_cons] at h1 h2
    have e : x = y := by
      have a1 : x ∈ y :: ys := p.mem_iff.mp (by simp)
      have a2 : y ∈ x :: xs := p.mem_iff.mpr (by simp)
      rcases List.mem_cons.mp a1 with e | a1
      · exact e
      · rcases List.mem_cons.mp a2 with e | a2
        · exact e.symm
        · have := h2.1 x a1
          have := h1.1 y a2
          omega
    subst e
    rw [sorted_uniq (List.Perm.cons_inv p) h1.2 h2.2]
theorem intsOf_map : ∀ {ds : List D} {is : List Int}, intsOf ds = some is → ds = is.map .int
  | [], is, h => by cases h; rfl
  | d :: ds, is, h => by
    cases d <;> simp [intsOf] at h
    obtain ⟨js, h1, h2⟩ := h
    subst h2
    rw [List.map_cons, intsOf_map h1]
theorem RZs.ints {K : PySem.W.Frag} {H : Hp} {O : Addr → Prop} : ∀ {is : List Int} {vs : List V}, RZs K H O (is.map .int) vs → vs = is.map V.int
  | [], _, .nil => rfl
  | i :: is, _, .cons r t => by rw [List.map_cons, r.int_inv, RZs.ints t]
theorem RZs.ofInts {K : PySem.W.Frag} {H : Hp} {O : Addr → Prop} : ∀ (is : List Int), RZs K H O (is.map .int) (is.map V.int)
  | [] => .nil
  | i :: is => .cons (.int i) (RZs.ofInts is)
theorem call_sortedA : CallR X (.builtin "sorted") (rBi X.K .sorted) := by
  intro pins s σ H xs us Q I r h
  obtain ⟨O, x, d1, f1, d, rfl, r1, e, q⟩ := h
  cases d1 <;> simp only [bltf, reduceCtorEq] at e
  rename_i o ds
  cases hi : intsOf ds with
  | none => rw [hi] at e; cases e
  | some is =>
    rw [hi] at e
    cases e
    have hds := intsOf_map hi
    subst hds
    obtain ⟨a, vs, rfl, h1, hz, rr⟩ := r1.seq
    have hv := rr.ints
    subst hv
    refine cr_sortedI pins s σ H _ us Q I r ⟨a, is, rfl, SqL.of h1, fun ns' p hp hs hn => ?_⟩
    have e2 : ns' = sortI is := sorted_uniq (hp.trans (sortI_perm is).symm) hs (sortI_le is)
    subst e2
    refine q _ _ _ (.lst hn ?_ (RZs.ofInts _))
    rw [List.length_map, (sortI_perm is).length_eq]
    simpa using hz
theorem digs_str (i : Int) : (toString i : Str) = Sg (digs i) := by
  show Str.mk _ = Str.mk _
  rw [cpsOfBytes_string]
  rfl
theorem call_strA : CallR X (.type "str") (rBi X.K .str) := by
  intro pins s σ H xs us Q I r h
  obtain ⟨O, x, d1, f1, d, rfl, r1, e, q⟩ := h
  cases d1 <;> simp only [bltf, reduceCtorEq, Option.some.injEq, Option.ite_none_right_eq_some] at e
  obtain ⟨hz, e⟩ := e
  subst e
  have ex := r1.int_inv
  subst ex
  exact call_str_int pins s σ H _ us Q I r ⟨_, rfl, hz, by rw [digs_str]; exact q _ _ _ (.same (.str _))⟩
def biFn : Bi → Value
  | .len => .builtin "len"
  | .abs => .builtin "abs"
  | .int => .type "int"
  | .list => .type "list"
  | .tuple => .type "tuple"
  | .sorted => .builtin "sorted"
  | .str => .type "str"
theorem call_bi : ∀ b : Bi, CallR X (biFn b) (rBi X.K b)
  | .len => call_lenA
  | .abs => call_absA
  | .int => call_intA
  | .list => call_listA
  | .tuple => call_tupleA
  | .sorted => call_sortedA
  | .str => call_strA
def rBi2 (K : PySem.W.Frag) (b : Bi2) : List V → Hp → VK → Prop := fun xs H Q => ∃ O x y d1 d2 d, xs = [x, y] ∧ RZ K H O d1 x ∧ RZ K H O d2 y ∧ bltg b d1 d2 = some d ∧ ∀ v H' f, Made K H O d v H' f → Q v H'
def bi2Fn : Bi2 → Value
  | .max => .builtin "max"
  | .min => .builtin "min"
theorem call_bi2 (hc : X.calm = true) : ∀ b : Bi2, CallR X (bi2Fn b) (rBi2 X.K b)
  | .max => by
    intro pins s σ H xs us Q I r h
    obtain ⟨O, x, y, d1, d2, d, rfl, r1, r2, e, q⟩ := h
    cases d1 <;> cases d2 <;> simp only [bltg, reduceCtorEq, Option.some.injEq] at e
    subst e
    have e1 := r1.int_inv
    have e2 := r2.int_inv
    subst e1 e2
    exact call_max2 hc pins s σ H _ us Q I r ⟨_, _, rfl, q _ _ _ (.same (.int _))⟩
  | .min => by
    intro pins s σ H xs us Q I r h
    obtain ⟨O, x, y, d1, d2, d, rfl, r1, r2, e, q⟩ := h
    cases d1 <;> cases d2 <;> simp only [bltg, reduceCtorEq, Option.some.injEq] at e
    subst e
    have e1 := r1.int_inv
    have e2 := r2.int_inv
    subst e1 e2
    exact call_min2 hc pins s σ H _ us Q I r ⟨_, _, rfl, q _ _ _ (.same (.int _))⟩
/-! ### isinstance -/
def tyN : Ty → String
  | .int => "int"
  | .bool => "bool"
  | .str => "str"
  | .tuple => "tuple"
  | .list => "list"
theorem isi_of {K : PySem.W.Frag} {H : Hp} {O : Addr → Prop} {d : D} {v : V} {ty : Ty} {b : Bool} (r : RZ K H O d v) (h : isiq d ty = some b) : ∃ t, TyX K H v t ∧ PySem.W.kitOne K t (.type (tyN ty)) = some b := by
  cases r with
  | non => cases ty <;> simp [isiq] at h <;> subst h <;> exact ⟨_, .base .non, kit_ty (by decide +kernel)⟩
  | bl x => cases ty <;> simp [isiq] at h <;> subst h <;> exact ⟨_, .base (.bl x), kit_ty (by decide +kernel)⟩
  | int x => cases ty <;> simp [isiq] at h <;> subst h <;> exact ⟨_, .base (.int x), kit_ty (by decide +kernel)⟩
  | str x => cases ty <;> simp [isiq] at h <;> subst h <;> exact ⟨_, .base (.str _), kit_ty (by decide +kernel)⟩
  | tup n e => cases ty <;> simp [isiq] at h <;> subst h <;> exact ⟨_, .base (.tup e), kit_ty (by decide +kernel)⟩
  | lst n e => cases ty <;> simp [isiq] at h <;> subst h <;> exact ⟨_, .base (.lst e), kit_ty (by decide +kernel)⟩
  | scr => simp [isiq] at h
  | dic => simp [isiq] at h
/-! ### truth -/
theorem tru_of {K : PySem.W.Frag} {H : Hp} {O : Addr → Prop} {d : D} {v : V} {f : List Addr} {b : Bool} (r : RO K H O d v f) (h : tru d = some b) : TruV K v H b := by
  cases d <;> simp only [tru, reduceCtorEq, Option.some.injEq] at h
  · subst h; cases r with | z r => cases r; rfl
  · subst h; have e := r.blI; subst e; rfl
  · subst h; have e := r.int_inv; subst e; rfl
  · subst h
    obtain ⟨a, vs, rfl, h1, hz, rr⟩ := r.tupl
    exact .inr (.inl ⟨vs, SqT.of h1, by cases rr <;> rfl⟩)
  · subst h
    obtain ⟨a, vs, rfl, h1, hz, rr⟩ := r.seq
    exact .inl ⟨vs, SqL.of h1, by cases rr <;> rfl⟩
end
end Sf
end
section
set_option Elab.async false
set_option maxRecDepth 100000
set_option linter.all false
/-! SfRd: the evaluator's runs as readings of the hand layer; expressions. -/
namespace Sf
open PySem PySem.Spec PyProof.Rows L2

theorem bnd_ok {α β : Type} {o : Out α} {f : α → Env → Out β} {b : β} {r : Env} : o.bnd f = .ok b r ↔ ∃ a r1, o = .ok a r1 ∧ f a r1 = .ok b r := by
  constructor
  · intro h
    cases o with
    | ok a r1 => exact ⟨a, r1, rfl, h⟩
    | exn => cases h
    | bad => cases h
  · rintro ⟨a, r1, rfl, h⟩
    exact h
theorem lift_ok {α : Type} {o : Option α} {a : α} {r r' : Env} : Out.lift o r = .ok a r' ↔ o = some a ∧ r' = r := by
  cases o with
  | none => exact ⟨(fun h => nomatch h), (fun h => nomatch h.1)⟩
  | some x =>
    constructor
    · intro h; cases h; exact ⟨rfl, rfl⟩
    · rintro ⟨h, rfl⟩; cases h; rfl

section
variable (K : PySem.W.Frag) (tb : List Addr)
/-- a value comes, perhaps with what it owns -/
def RdO (m : Env → Out D) : TE := fun σ H Q => ∃ G r fp d r', EnvR K tb H G r σ fp ∧ m r = .ok d r' ∧ ∀ v H' fp' f, EnvR K tb H' (fun a => G a ∨ a ∈ f) r' σ fp' → (∀ a ∈ f, ¬ G a) →
  RO K H' (Own (fun a => G a ∨ a ∈ f) fp') d v f → Pres H fp H' fp' → (∀ a ∈ f, ∀ o, H a = some o → ∃ i, a ∈ fp i) → Q v H'
/-- a value that stands still -/
def RdZ (m : Env → Out D) : TE := fun σ H Q => ∃ G r fp d r', EnvR K tb H G r σ fp ∧ m r = .ok d r' ∧ ∀ v H' fp', EnvR K tb H' G r' σ fp' → RZ K H' (Own G fp') d v → Pres H fp H' fp' → Q v H'
/-- a value to be looked at once -/
def RdP (m : Env → Out D) : TE := fun σ H Q => ∃ G r fp d r', EnvR K tb H G r σ fp ∧ m r = .ok d r' ∧ ∀ v H' fp' f, EnvR K tb H' G r' σ fp' → RO K H' (Own G fp') d v f → Pres H fp H' fp' → Q v H'
/-- .. with which nothing happens -/
def RdX (m : Env → Out D) : TE := fun σ H Q => ∃ G r fp d, EnvR K tb H G r σ fp ∧ m r = .ok d r ∧ ∀ v f, RO K H (Own G fp) d v f → Q v H
def RdT (m : Env → Out Bool) : TT := fun σ H Q => ∃ G r fp b r', EnvR K tb H G r σ fp ∧ m r = .ok b r' ∧ ∀ H' fp', EnvR K tb H' G r' σ fp' → Pres H fp H' fp' → Q b H'
/-- the heap is as it was, or has one more tuple -/
inductive Grow (H : Hp) : Hp → Prop
  | same : Grow H H
  | tup {p : Addr} {xs : List V} : H p = none → Grow H (upd H p (.tup xs))
/-- J gives what stands for ds, one behind the other -/
def ItOk (J : It) (H : Hp) (O : Addr → Prop) (ds : List D) : Prop :=
  ∃ GI : Hp → Prop, GI H ∧ (∀ H2 O2, Keep H H2 O O2 → GI H2) ∧
    Walk J ds.length GI fun i H2 x H3 => Grow H2 H3 ∧ ∃ d, ds[i]? = some d ∧ ∀ O2, Keep H H2 O O2 → (∀ a, H2 a = none → ¬ O2 a) → RZ K H3 O2 d x
def RdI (m : Env → Out (List D)) : TI := fun σ H R => ∃ G r fp ds r', EnvR K tb H G r σ fp ∧ m r = .ok ds r' ∧ ∀ J H' fp', EnvR K tb H' G r' σ fp' → Pres H fp H' fp' → ds.length ≤ SZ → ItOk K J H' (Own G fp') ds → R J H'
/-- arguments that stand still -/
def RdA (m : Env → Out (List D)) : TA := fun σ H Q => ∃ G r fp ds r', EnvR K tb H G r σ fp ∧ m r = .ok ds r' ∧ ∀ vs H' fp', EnvR K tb H' G r' σ fp' → RZs K H' (Own G fp') ds vs → Pres H fp H' fp' → Q vs H'
end
theorem mkPE {X : Cx} {e : Expr} {t t' : TE} (h : PE X e t) (m : ∀ σ H Q, t' σ H Q → t σ H Q) : PE X e t' := ⟨fun pins s σ H Q I q => h.run pins s σ H Q I (m σ H Q q)⟩
theorem mkPT {X : Cx} {e : Expr} {t t' : TT} (h : PT X e t) (m : ∀ σ H Q, t' σ H Q → t σ H Q) : PT X e t' := ⟨fun pins s σ H Q I q => h.run pins s σ H Q I (m σ H Q q)⟩
theorem mkPA {X : Cx} {e : List Expr} {t t' : TA} (h : PA X e t) (m : ∀ σ H Q, t' σ H Q → t σ H Q) : PA X e t' := ⟨fun pos pins s σ H Q I q => h.run pos pins s σ H Q I (m σ H Q q)⟩
theorem mkPI {X : Cx} {tg e : Expr} {t t' : TI} (h : PI X tg e t) (m : ∀ σ H Q, t' σ H Q → t σ H Q) : PI X tg e t' := ⟨fun pins s σ H Q I q => h.run pins s σ H Q I (m σ H Q q)⟩

section
variable {X : Cx} {K : PySem.W.Frag} {tb : List Addr} {H H' : Hp} {G : Addr → Prop} {r r' : Env} {σ : L2.St} {fp fp' : Nat → List Addr}
theorem EnvR.toNil (e : EnvR K tb H G r σ fp) : EnvR K tb H (fun a => G a ∨ a ∈ ([] : List Addr)) r σ fp := e.less fun a z => z.elim id fun q => by simp at q
theorem EnvR.ofNil (e : EnvR K tb H (fun a => G a ∨ a ∈ ([] : List Addr)) r σ fp) : EnvR K tb H G r σ fp := e.less fun a z => .inl z
theorem keep_self {O O' : Addr → Prop} (h : ∀ a, O' a → O a) : Keep H H O O' := ⟨fun a o e n _ => ⟨e, fun z => n (h a z)⟩, fun _ _ _ e => e⟩
theorem own_nil {a : Addr} (h : Own (fun a => G a ∨ a ∈ ([] : List Addr)) fp a) : Own G fp a := h.elim (fun z => z.elim .inl fun q => by simp at q) .inr
theorem own_nil' {a : Addr} (h : Own G fp a) : Own (fun a => G a ∨ a ∈ ([] : List Addr)) fp a := h.elim (fun z => .inl (.inl z)) .inr
theorem EnvR.newFree (e : EnvR K tb H G r σ fp) : ∀ a, H a = none → ¬ Own G fp a := fun a h => e.notOwn h
/-- what a value owns is nobody's once he lets it go -/
theorem RO.letgo {d : D} {v : V} {f : List Addr} (e : EnvR K tb H (fun a => G a ∨ a ∈ f) r σ fp) (hG : ∀ a ∈ f, ¬ G a) (ro : RO K H (Own (fun a => G a ∨ a ∈ f) fp) d v f) : RZ K H (Own G fp) d.frz v :=
  ro.frz (fun a z => z.elim (fun z => .inl (.inl z)) .inr) fun a ha z => z.elim (hG a ha) fun ⟨i, q⟩ => e.out i a q (.inr ha)
theorem toZ {e : Expr} {m : Env → Out D} (h : PE X e (RdO X.K tb m)) : PE X e (RdZ X.K tb fun r => (m r).bnd fun d r => .ok d.frz r) := by
  refine mkPE h fun σ H Q ⟨G, r, fp, d, r', E, q, k⟩ => ?_
  obtain ⟨a, r1, e1, e2⟩ := bnd_ok.mp q
  have e3 : Out.ok a.frz r1 = Out.ok d r' := e2
  cases e3
  exact ⟨G, r, fp, a, _, E, e1, fun v H' fp' f E' hG ro P nw => k v H' fp' (E'.less fun a z => .inl z) (ro.letgo E' hG) P⟩
/-- a frozen one is one that owns nothing -/
theorem ofZ {e : Expr} {m : Env → Out D} (h : PE X e (RdZ X.K tb m)) : PE X e (RdO X.K tb m) := by
  refine mkPE h fun σ H Q ⟨G, r, fp, d, r', E, q, k⟩ => ?_
  exact ⟨G, r, fp, d, r', E, q, fun v H' fp' E' z P => k v H' fp' [] E'.toNil (fun a ha => by simp at ha) (.z (z.keep (keep_self fun a => own_nil))) P fun a ha => by simp at ha⟩
theorem ZtoP {e : Expr} {m : Env → Out D} (h : PE X e (RdZ X.K tb m)) : PE X e (RdP X.K tb m) := by
  refine mkPE h fun σ H Q ⟨G, r, fp, d, r', E, q, k⟩ => ?_
  exact ⟨G, r, fp, d, r', E, q, fun v H' fp' E' z P => k v H' fp' [] E' (.z z) P⟩
theorem XtoP {e : Expr} {m : Env → Out D} (h : PE X e (RdX X.K tb m)) (hm : ∀ r d r', m r = .ok d r' → r' = r) : PE X e (RdP X.K tb m) := by
  refine mkPE h fun σ H Q ⟨G, r, fp, d, r', E, q, k⟩ => ?_
  have e1 := hm _ _ _ q
  subst e1
  exact ⟨G, r', fp, d, E, q, fun v f ro => k v H fp f E ro Pres.refl⟩
/-- where nothing may come of it, anything goes -/
theorem never {e : Expr} : PE X e (RdO X.K tb fun _ => .bad) := ⟨fun _ _ _ _ _ _ ⟨_, _, _, _, _, _, h, _⟩ => nomatch h⟩
theorem neverT {e : Expr} : PT X e (RdT X.K tb fun _ => .bad) := ⟨fun _ _ _ _ _ _ ⟨_, _, _, _, _, _, h, _⟩ => nomatch h⟩
theorem neverI {tg e : Expr} : PI X tg e (RdI X.K tb fun _ => .bad) := ⟨fun _ _ _ _ _ _ ⟨_, _, _, _, _, _, h, _⟩ => nomatch h⟩

/-- the end of a rule: a value made -/
theorem made_end {H0 : Hp} {fp0 : Nat → List Addr} {d : D} {v : V} {f : List Addr} {Q : VK} (E : EnvR K tb H G r σ fp) (P : Pres H0 fp0 H fp)
    (k : ∀ v H' fp' f, EnvR K tb H' (fun a => G a ∨ a ∈ f) r σ fp' → (∀ a ∈ f, ¬ G a) → RO K H' (Own (fun a => G a ∨ a ∈ f) fp') d v f → Pres H0 fp0 H' fp' → (∀ a ∈ f, ∀ o, H0 a = some o → ∃ i, a ∈ fp0 i) → Q v H')
    (m : Made K H (Own G fp) d v H' f) : Q v H' := by
  obtain ⟨a1, a2, a3, a4, a5⟩ := m.env E
  exact k v H' fp f a1 a2 a3 (P.trans a4) fun a ha o ho => P.fresh (a5 a ha) ho

/-! ### names and constants -/
theorem s_var {x : Str} {pos : Pos} {i : Nat} (hN : X.N[i]? = some x) (hv : Vis X.env.scope x) (h1 : (x == ("__debug__" : Str)) = false) (h2 : (x == ("__classdict__" : Str)) = false) : PE X (.Name x pos) (RdO X.K tb (varV i)) := by
  refine mkPE (pe_var hN hv h1 h2) fun σ H Q ⟨G, r, fp, d, r', E, q, k⟩ => ?_
  unfold varV at q
  cases hp : peek r i with
  | none => rw [hp] at q; cases q
  | some d0 =>
    rw [hp] at q
    obtain ⟨v, hσ, ro⟩ := E.rel i d0 hp
    refine ⟨v, hσ, ?_⟩
    by_cases z : d0.isZ = true
    · simp only [z, if_true] at q
      cases q
      exact k v H fp [] E.toNil (fun a ha => by simp at ha) (.z ((ro.zof z).1.keep (keep_self fun a => own_nil))) Pres.refl fun a ha => by simp at ha
    · simp only [z] at q
      cases q
      have E' := E.free hp
      obtain ⟨v', h1, z', _⟩ := E'.z (i := i) (d := d0.frz) (by rw [peek_put (peek_lt hp), if_pos rfl]) (by cases d0 <;> rfl)
      rw [hσ] at h1; cases h1
      exact k v H _ [] E'.toNil (fun a ha => by simp at ha) (.z (z'.keep (keep_self fun a => own_nil))) pres_less fun a ha => by simp at ha
theorem s_varX {x : Str} {pos : Pos} {i : Nat} (hN : X.N[i]? = some x) (hv : Vis X.env.scope x) (h1 : (x == ("__debug__" : Str)) = false) (h2 : (x == ("__classdict__" : Str)) = false) : PE X (.Name x pos) (RdX X.K tb fun r => .lift (peek r i) r) := by
  refine mkPE (pe_var hN hv h1 h2) fun σ H Q ⟨G, r, fp, d, E, q, k⟩ => ?_
  obtain ⟨e1, _⟩ := lift_ok.mp q
  obtain ⟨v, hσ, ro⟩ := E.rel i d e1
  exact ⟨v, hσ, k v (fp i) ro⟩
theorem s_const {e : Expr} {d : D} {v : V} (h : PE X e (tC v)) (hz : ∀ K H O, RZ K H O d v) : PE X e (RdO X.K tb fun r => .ok d r) := by
  refine mkPE h fun σ H Q ⟨G, r, fp, d', r', E, q, k⟩ => ?_
  cases q
  exact k v H fp [] E.toNil (fun a ha => by simp at ha) (.z (hz _ _ _)) Pres.refl fun a ha => by simp at ha
theorem s_constX {e : Expr} {d : D} {v : V} (h : PE X e (tC v)) (hz : ∀ K H O, RZ K H O d v) (hf : d.frz = d) : PE X e (RdX X.K tb fun r => (Out.ok d r).bnd fun d r => .ok d.frz r) := by
  refine mkPE h fun σ H Q ⟨G, r, fp, d', E, q, k⟩ => ?_
  have q' : Out.ok d.frz r = Out.ok d' r := q
  rw [hf] at q'
  cases q'
  exact k v [] (.z (hz _ _ _))

/-! ### operators -/
theorem s_bin {a b : Expr} {pos : Pos} {op : Operator} {o : BOp} {ma mb : Env → Out D} (ho : opOf op = some o) (ha : PE X a (RdZ X.K tb ma)) (hb : PE X b (RdZ X.K tb mb)) :
    PE X (.BinOp a op b pos) (RdO X.K tb fun r => (ma r).bnd fun x r => (mb r).bnd fun y r => .lift (binop o x y) r) := by
  rw [opOf_back ho]
  refine mkPE (pe_op (op_bin o) ha hb) fun σ H Q ⟨G, r, fp, d, r', E, q, k⟩ => ?_
  obtain ⟨x, r1, e1, q⟩ := bnd_ok.mp q
  obtain ⟨y, r2, e2, q⟩ := bnd_ok.mp q
  obtain ⟨e3, rfl⟩ := lift_ok.mp q
  exact ⟨G, r, fp, x, r1, E, e1, fun v1 H1 fp1 E1 z1 P1 => ⟨G, r1, fp1, y, _, E1, e2, fun v2 H2 fp2 E2 z2 P2 => ⟨Own G fp2, x, y, d, z1.keep P2.kp, z2, e3, fun v H' f m => made_end E2 (P1.trans P2) k m⟩⟩⟩
theorem s_neg {a : Expr} {pos : Pos} {ma : Env → Out D} (ha : PE X a (RdO X.K tb ma)) : PE X (.UnaryOp .USub a pos) (RdO X.K tb fun r => (ma r).bnd fun x r => .lift ((asInt x).map fun i => .int (-i)) r) := by
  refine mkPE (pe_un un_neg ha) fun σ H Q ⟨G, r, fp, d, r', E, q, k⟩ => ?_
  obtain ⟨x, r1, e1, q⟩ := bnd_ok.mp q
  obtain ⟨e3, rfl⟩ := lift_ok.mp q
  cases x <;> simp only [asInt, Option.map_none, Option.map_some, reduceCtorEq, Option.some.injEq] at e3
  subst e3
  refine ⟨G, r, fp, _, _, E, e1, fun v1 H1 fp1 f E1 hG ro P1 nw => ?_⟩
  obtain ⟨z, rfl⟩ := ro.zof rfl
  have ev := z.int_inv
  subst ev
  exact ⟨_, rfl, k _ H1 fp1 [] E1 hG (.z (.int _)) P1 nw⟩
/-- a bool as the end -/
theorem bl_end {H0 : Hp} {fp0 : Nat → List Addr} {b : Bool} {Q : VK} (E : EnvR K tb H G r σ fp) (P : Pres H0 fp0 H fp)
    (k : ∀ v H' fp' f, EnvR K tb H' (fun a => G a ∨ a ∈ f) r σ fp' → (∀ a ∈ f, ¬ G a) → RO K H' (Own (fun a => G a ∨ a ∈ f) fp') (.bl b) v f → Pres H0 fp0 H' fp' → (∀ a ∈ f, ∀ o, H0 a = some o → ∃ i, a ∈ fp0 i) → Q v H') : Q (.bl b) H :=
  k _ H fp [] E.toNil (fun a ha => by simp at ha) (.z (.bl b)) P fun a ha => by simp at ha
/-- a comparison: the first looked at, the second simple -/
theorem c_simple {a b : Expr} {ma mb : Env → Out D} {o : COp} {R : VK} {σ : L2.St} {H : Hp} {G : Addr → Prop} {r : Env} {fp : Nat → List Addr} {x y : D} {r1 r2 : Env} {kk : Bool}
    (E : EnvR X.K tb H G r σ fp) (e1 : ma r = .ok x r1) (e2 : mb r1 = .ok y r1) (e3 : cmpop o x y = some kk) (k : ∀ H' fp', EnvR X.K tb H' G r1 σ fp' → Pres H fp H' fp' → R (.bl kk) H') :
    tOp (rCmp X.K o) (RdP X.K tb ma) (RdX X.K tb mb) σ H R :=
  ⟨G, r, fp, x, r1, E, e1, fun v1 H1 fp1 f1 E1 ro1 P1 => ⟨G, r1, fp1, y, E1, e2, fun v2 f2 ro2 => ⟨Own G fp1, x, y, f1, f2, kk, ro1, ro2, e3, k H1 fp1 E1 P1⟩⟩⟩
theorem c_plain {ma mb : Env → Out D} {o : COp} {R : VK} {σ : L2.St} {H : Hp} {G : Addr → Prop} {r : Env} {fp : Nat → List Addr} {x y : D} {r1 r2 : Env} {kk : Bool}
    (E : EnvR X.K tb H G r σ fp) (e1 : ma r = .ok x r1) (e2 : mb r1 = .ok y r2) (e3 : cmpop o x y = some kk) (k : ∀ H' fp', EnvR X.K tb H' G r2 σ fp' → Pres H fp H' fp' → R (.bl kk) H') :
    tOp (rCmp X.K o) (RdZ X.K tb ma) (RdP X.K tb mb) σ H R :=
  ⟨G, r, fp, x, r1, E, e1, fun v1 H1 fp1 E1 z1 P1 => ⟨G, r1, fp1, y, r2, E1, e2, fun v2 H2 fp2 f2 E2 ro2 P2 => ⟨Own G fp2, x, y, [], f2, kk, .z (z1.keep P2.kp), ro2, e3, k H2 fp2 E2 (P1.trans P2)⟩⟩⟩
theorem s_cmpS {a b : Expr} {pos : Pos} {op : CmpOp} {ma mb : Env → Out D} (hu : X.A.units + 64 < cLine) (hm : behindInMarks op b = false) (ha : PE X a (RdP X.K tb ma)) (hb : PE X b (RdX X.K tb mb)) (hs : ∀ r d r', mb r = .ok d r' → r' = r) :
    PE X (.Compare a [op] [b] pos) (RdO X.K tb fun r => (ma r).bnd fun x r => (mb r).bnd fun y r => .lift ((cmpop (cpOf op) x y).map .bl) r) ∧
    PT X (.Compare a [op] [b] pos) (RdT X.K tb fun r => ((ma r).bnd fun x r => (mb r).bnd fun y r => .lift ((cmpop (cpOf op) x y).map .bl) r).bnd fun d r => .lift (tru d) r) := by
  have ho := op_cmp (X := X) hu (cpOf op)
  rw [cpOf_back] at ho
  refine ⟨mkPE (pe_cmpR ho ha hb hm) fun σ H Q ⟨G, r, fp, d, r', E, q, k⟩ => ?_, mkPT (pt_cmpR ho ha hb hm) fun σ H Q ⟨G, r, fp, d, r', E, q, k⟩ => ?_⟩
  · obtain ⟨x, r1, e1, q1⟩ := bnd_ok.mp q
    obtain ⟨y, r2, e2, q2⟩ := bnd_ok.mp q1
    obtain ⟨e3, e5⟩ := lift_ok.mp q2
    have e4 := hs _ _ _ e2
    rw [e4] at e2
    rw [e4] at e5
    subst e5
    cases hc : cmpop (cpOf op) x y with
    | none => rw [hc] at e3; cases e3
    | some kk =>
      rw [hc] at e3; cases e3
      exact c_simple (a := a) (b := b) (r2 := r) E e1 e2 hc fun H' fp' E' P => bl_end E' P k
  · obtain ⟨z, r0, q0, qt⟩ := bnd_ok.mp q
    obtain ⟨x, r1, e1, q1⟩ := bnd_ok.mp q0
    obtain ⟨y, r2, e2, q2⟩ := bnd_ok.mp q1
    obtain ⟨e3, e5⟩ := lift_ok.mp q2
    obtain ⟨et, e6⟩ := lift_ok.mp qt
    have e4 := hs _ _ _ e2
    rw [e4] at e2
    rw [e4] at e5
    rw [e5] at e6
    subst e6
    cases hc : cmpop (cpOf op) x y with
    | none => rw [hc] at e3; cases e3
    | some kk =>
      rw [hc] at e3; cases e3; cases et
      exact c_simple (a := a) (b := b) (r2 := r) E e1 e2 hc fun H' fp' E' P => ⟨_, rfl, k H' fp' E' P⟩
theorem s_cmpP {a b : Expr} {pos : Pos} {op : CmpOp} {ma mb : Env → Out D} (hu : X.A.units + 64 < cLine) (hm : behindInMarks op b = false) (ha : PE X a (RdZ X.K tb ma)) (hb : PE X b (RdP X.K tb mb)) :
    PE X (.Compare a [op] [b] pos) (RdO X.K tb fun r => (ma r).bnd fun x r => (mb r).bnd fun y r => .lift ((cmpop (cpOf op) x y).map .bl) r) ∧
    PT X (.Compare a [op] [b] pos) (RdT X.K tb fun r => ((ma r).bnd fun x r => (mb r).bnd fun y r => .lift ((cmpop (cpOf op) x y).map .bl) r).bnd fun d r => .lift (tru d) r) := by
  have ho := op_cmp (X := X) hu (cpOf op)
  rw [cpOf_back] at ho
  refine ⟨mkPE (pe_cmpR ho ha hb hm) fun σ H Q ⟨G, r, fp, d, r', E, q, k⟩ => ?_, mkPT (pt_cmpR ho ha hb hm) fun σ H Q ⟨G, r, fp, d, r', E, q, k⟩ => ?_⟩
  · obtain ⟨x, r1, e1, q⟩ := bnd_ok.mp q
    obtain ⟨y, r2, e2, q⟩ := bnd_ok.mp q
    obtain ⟨e3, rfl⟩ := lift_ok.mp q
    cases hc : cmpop (cpOf op) x y with
    | none => rw [hc] at e3; cases e3
    | some kk =>
      rw [hc] at e3; cases e3
      exact c_plain E e1 e2 hc fun H' fp' E' P => bl_end E' P k
  · obtain ⟨z, r0, q, qt⟩ := bnd_ok.mp q
    obtain ⟨x, r1, e1, q⟩ := bnd_ok.mp q
    obtain ⟨y, r2, e2, q⟩ := bnd_ok.mp q
    obtain ⟨e3, rfl⟩ := lift_ok.mp q
    obtain ⟨et, rfl⟩ := lift_ok.mp qt
    cases hc : cmpop (cpOf op) x y with
    | none => rw [hc] at e3; cases e3
    | some kk =>
      rw [hc] at e3; cases e3; cases et
      exact c_plain E e1 e2 hc fun H' fp' E' P => ⟨_, rfl, k H' fp' E' P⟩
/-- a op b op' c -/
theorem c_chain {ma mb mc : Env → Out D} {o o' : COp} {R : VK} {σ : L2.St} {H : Hp} {G : Addr → Prop} {r r' : Env} {fp : Nat → List Addr} {d : D}
    (E : EnvR X.K tb H G r σ fp) (q : ((ma r).bnd fun x r => (mb r).bnd fun y r => match cmpop o x y with
      | some true => (mc r).bnd fun z r => .lift ((cmpop o' y z).map .bl) r
      | some false => .ok (.bl false) r
      | none => .bad) = .ok d r') (k : ∀ b H' fp', d = .bl b → EnvR X.K tb H' G r' σ fp' → Pres H fp H' fp' → R (.bl b) H') :
    tChain (rCmp X.K o) (rCmp X.K o') (RdZ X.K tb ma) (RdZ X.K tb mb) (RdZ X.K tb mc) σ H R := by
  obtain ⟨x, r1, e1, q⟩ := bnd_ok.mp q
  obtain ⟨y, r2, e2, q⟩ := bnd_ok.mp q
  refine ⟨G, r, fp, x, r1, E, e1, fun v1 H1 fp1 E1 z1 P1 => ⟨G, r1, fp1, y, r2, E1, e2, fun v2 H2 fp2 E2 z2 P2 => ?_⟩⟩
  cases hc : cmpop o x y with
  | none => rw [hc] at q; cases q
  | some b =>
    rw [hc] at q
    refine ⟨Own G fp2, x, y, [], [], b, .z (z1.keep P2.kp), .z z2, hc, b, rfl, ?_⟩
    cases b with
    | false =>
      cases q
      exact k false H2 fp2 rfl E2 (P1.trans P2)
    | true =>
      obtain ⟨z, r3, e3, q⟩ := bnd_ok.mp q
      obtain ⟨e4, rfl⟩ := lift_ok.mp q
      cases hd : cmpop o' y z with
      | none => rw [hd] at e4; cases e4
      | some c =>
        rw [hd] at e4; cases e4
        exact ⟨G, r2, fp2, z, _, E2, e3, fun v3 H3 fp3 E3 z3 P3 => ⟨Own G fp3, y, z, [], [], c, .z (z2.keep P3.kp), .z z3, hd, k c H3 fp3 rfl E3 ((P1.trans P2).trans P3)⟩⟩
theorem s_chain {a b c : Expr} {pos : Pos} {op op' : CmpOp} {ma mb mc : Env → Out D} (hu : X.A.units + 64 < cLine) (hm : lastMarks [op, op'] [b, c] = false) (ha : PE X a (RdZ X.K tb ma)) (hb : PE X b (RdZ X.K tb mb)) (hc : PE X c (RdZ X.K tb mc)) :
    PE X (.Compare a [op, op'] [b, c] pos) (RdO X.K tb fun r => (ma r).bnd fun x r => (mb r).bnd fun y r => match cmpop (cpOf op) x y with
      | some true => (mc r).bnd fun z r => .lift ((cmpop (cpOf op') y z).map .bl) r
      | some false => .ok (.bl false) r
      | none => .bad) ∧
    PT X (.Compare a [op, op'] [b, c] pos) (RdT X.K tb fun r => ((ma r).bnd fun x r => (mb r).bnd fun y r => match cmpop (cpOf op) x y with
      | some true => (mc r).bnd fun z r => .lift ((cmpop (cpOf op') y z).map .bl) r
      | some false => .ok (.bl false) r
      | none => .bad).bnd fun d r => .lift (tru d) r) := by
  have ho := op_cmp (X := X) hu (cpOf op)
  have ho' := op_cmp (X := X) hu (cpOf op')
  rw [cpOf_back] at ho ho'
  refine ⟨mkPE (pe_chain ho ho' ha hb hc hm) fun σ H Q ⟨G, r, fp, d, r', E, q, k⟩ => ?_, mkPT (pt_chain ho ho' ha hb hc hm) fun σ H Q ⟨G, r, fp, d, r', E, q, k⟩ => ?_⟩
  · exact c_chain E q fun b H' fp' e E' P => by subst e; exact bl_end E' P k
  · obtain ⟨z, r0, q, qt⟩ := bnd_ok.mp q
    obtain ⟨et, rfl⟩ := lift_ok.mp qt
    exact c_chain E q fun b H' fp' e E' P => by subst e; cases et; exact ⟨_, rfl, k H' fp' E' P⟩

/-! ### not, and, or, if -/
theorem s_notV {a : Expr} {pos : Pos} {ma : Env → Out D} (ha : PE X a (RdP X.K tb ma)) :
    PE X (.UnaryOp .Not a pos) (RdO X.K tb fun r => (ma r).bnd fun x r => .lift ((tru x).map fun b => .bl !b) r) := by
  refine mkPE (pe_notT ha) fun σ H Q ⟨G, r, fp, d, r', E, q, k⟩ => ?_
  obtain ⟨x, r1, e1, q1⟩ := bnd_ok.mp q
  obtain ⟨e3, rfl⟩ := lift_ok.mp q1
  cases ht : tru x with
  | none => rw [ht] at e3; cases e3
  | some b =>
    rw [ht] at e3; cases e3
    exact ⟨G, r, fp, x, _, E, e1, fun v H' fp' f E' ro P => ⟨b, tru_of ro ht, bl_end E' P k⟩⟩
theorem s_notT {a : Expr} {pos : Pos} {mt : Env → Out Bool} (ha : PT X a (RdT X.K tb mt)) : PT X (.UnaryOp .Not a pos) (RdT X.K tb fun r => (mt r).bnd fun b r => .ok (!b) r) := by
  refine mkPT (pt_not ha) fun σ H Q ⟨G, r, fp, d, r', E, q, k⟩ => ?_
  obtain ⟨b, r1, e1, q1⟩ := bnd_ok.mp q
  have e3 : Out.ok (!b) r1 = Out.ok d r' := q1
  cases e3
  exact ⟨G, r, fp, b, _, E, e1, k⟩
/-- what is new behind two steps was new -/
theorem nw_trans {H0 H1 : Hp} {fp0 fp1 : Nat → List Addr} {f : List Addr} {H' : Hp} {fp' : Nat → List Addr} (P1 : Pres H0 fp0 H1 fp1) (P' : Pres H1 fp1 H' fp') (hf : ∀ a ∈ f, ∃ o, H' a = some o ∧ ∀ q, o ≠ .tbl q)
    (nw : ∀ a ∈ f, ∀ o, H1 a = some o → ∃ i, a ∈ fp1 i) : ∀ a ∈ f, ∀ o, H0 a = some o → ∃ i, a ∈ fp0 i := fun a ha o ho => by
  refine Classical.byContradiction fun n => ?_
  have n' : ∀ i, a ∉ fp0 i := fun i z => n ⟨i, z⟩
  by_cases t : ∀ q, o ≠ .tbl q
  · obtain ⟨h1, h2⟩ := P1.obj a o ho n' t
    obtain ⟨i, hi⟩ := nw a ha o h1
    exact h2 i hi
  · obtain ⟨u, hu, ht⟩ := hf a ha
    cases o with
    | tbl q =>
      obtain ⟨q', e'⟩ := (P1.trans P').tbl a q ho
      rw [hu] at e'; cases e'
      exact ht _ rfl
    | _ => exact t fun q z => nomatch z
/-- a run goes on from a later point -/
theorem go_on {H0 H1 : Hp} {fp0 fp1 : Nat → List Addr} {r1 r' : Env} {m : Env → Out D} {d : D} {Q : VK} (E1 : EnvR K tb H1 G r1 σ fp1) (P1 : Pres H0 fp0 H1 fp1) (e : m r1 = .ok d r')
    (k : ∀ v H' fp' f, EnvR K tb H' (fun a => G a ∨ a ∈ f) r' σ fp' → (∀ a ∈ f, ¬ G a) → RO K H' (Own (fun a => G a ∨ a ∈ f) fp') d v f → Pres H0 fp0 H' fp' → (∀ a ∈ f, ∀ o, H0 a = some o → ∃ i, a ∈ fp0 i) → Q v H') : RdO K tb m σ H1 Q :=
  ⟨G, r1, fp1, d, r', E1, e, fun v H' fp' f E' hG ro P' nw => k v H' fp' f E' hG ro (P1.trans P') (nw_trans P1 P' (fun a ha => E'.gok a (.inr ha)) nw)⟩
theorem go_onT {H0 H1 : Hp} {fp0 fp1 : Nat → List Addr} {r1 r' : Env} {m : Env → Out Bool} {d : Bool} {Q : Bool → Hp → Prop} (E1 : EnvR K tb H1 G r1 σ fp1) (P1 : Pres H0 fp0 H1 fp1) (e : m r1 = .ok d r')
    (k : ∀ H' fp', EnvR K tb H' G r' σ fp' → Pres H0 fp0 H' fp' → Q d H') : RdT K tb m σ H1 Q :=
  ⟨G, r1, fp1, d, r', E1, e, fun H' fp' E' P' => k H' fp' E' (P1.trans P')⟩
theorem s_and {a b : Expr} {rest : List Expr} {pos : Pos} {ma mb : Env → Out D} {ta tb' : Env → Out Bool} (ha : PE X a (RdO X.K tb ma)) (hb : PE X (.BoolOp .And (b :: rest) pos) (RdO X.K tb mb)) :
    PE X (.BoolOp .And (a :: b :: rest) pos) (RdO X.K tb fun r => (ma r).bnd fun x r => match x with
      | .bl true => mb r
      | .bl false => .ok (.bl false) r
      | _ => .bad) := by
  refine mkPE (pe_and ha hb) fun σ H Q ⟨G, r, fp, d, r', E, q, k⟩ => ?_
  obtain ⟨x, r1, e1, q⟩ := bnd_ok.mp q
  refine ⟨G, r, fp, x, r1, E, e1, fun v1 H1 fp1 f1 E1 hG ro P1 nw => ?_⟩
  cases x with
  | bl c =>
    obtain ⟨z, rfl⟩ := ro.zof rfl
    refine ⟨c, z.bl_inv, ?_⟩
    cases c with
    | false =>
      have q' : Out.ok (.bl false) r1 = Out.ok d r' := q
      cases q'
      exact k _ H1 fp1 [] E1 hG (.z (.bl false)) P1 nw
    | true => exact go_on E1.ofNil P1 q k
  | _ => cases q
theorem s_or {a b : Expr} {rest : List Expr} {pos : Pos} {ma mb : Env → Out D} (ha : PE X a (RdO X.K tb ma)) (hb : PE X (.BoolOp .Or (b :: rest) pos) (RdO X.K tb mb)) :
    PE X (.BoolOp .Or (a :: b :: rest) pos) (RdO X.K tb fun r => (ma r).bnd fun x r => match x with
      | .bl true => .ok (.bl true) r
      | .bl false => mb r
      | _ => .bad) := by
  refine mkPE (pe_or ha hb) fun σ H Q ⟨G, r, fp, d, r', E, q, k⟩ => ?_
  obtain ⟨x, r1, e1, q⟩ := bnd_ok.mp q
  refine ⟨G, r, fp, x, r1, E, e1, fun v1 H1 fp1 f1 E1 hG ro P1 nw => ?_⟩
  cases x with
  | bl c =>
    obtain ⟨z, rfl⟩ := ro.zof rfl
    refine ⟨c, z.bl_inv, ?_⟩
    cases c with
    | true =>
      have q' : Out.ok (.bl true) r1 = Out.ok d r' := q
      cases q'
      exact k _ H1 fp1 [] E1 hG (.z (.bl true)) P1 nw
    | false => exact go_on E1.ofNil P1 q k
  | _ => cases q
theorem s_andT {a b : Expr} {rest : List Expr} {pos : Pos} {ma mb : Env → Out Bool} (ha : PT X a (RdT X.K tb ma)) (hb : PW X (.BoolOp .And (b :: rest) pos) (RdT X.K tb mb)) :
    PW X (.BoolOp .And (a :: b :: rest) pos) (RdT X.K tb fun r => (ma r).bnd fun c r => if c then mb r else .ok false r) := by
  refine ⟨fun wh pins s σ H Q I h => (pw_and ha hb).run wh pins s σ H Q I ?_⟩
  obtain ⟨G, r, fp, d, r', E, q, k⟩ := h
  obtain ⟨c, r1, e1, q⟩ := bnd_ok.mp q
  refine ⟨G, r, fp, c, r1, E, e1, fun H1 fp1 E1 P1 => ?_⟩
  cases c with
  | true => exact go_onT E1 P1 q k
  | false =>
    have q' : Out.ok false r1 = Out.ok d r' := q
    cases q'
    exact k H1 fp1 E1 P1
theorem s_orT {a b : Expr} {rest : List Expr} {pos : Pos} {ma mb : Env → Out Bool} (ha : PT X a (RdT X.K tb ma)) (hb : PW X (.BoolOp .Or (b :: rest) pos) (RdT X.K tb mb)) :
    PW X (.BoolOp .Or (a :: b :: rest) pos) (RdT X.K tb fun r => (ma r).bnd fun c r => if c then .ok true r else mb r) := by
  refine ⟨fun wh pins s σ H Q I h => (pw_or ha hb).run wh pins s σ H Q I ?_⟩
  obtain ⟨G, r, fp, d, r', E, q, k⟩ := h
  obtain ⟨c, r1, e1, q⟩ := bnd_ok.mp q
  refine ⟨G, r, fp, c, r1, E, e1, fun H1 fp1 E1 P1 => ?_⟩
  cases c with
  | false => exact go_onT E1 P1 q k
  | true =>
    have q' : Out.ok true r1 = Out.ok d r' := q
    cases q'
    exact k H1 fp1 E1 P1
theorem s_if {c a b : Expr} {pos : Pos} {mc : Env → Out Bool} {ma mb : Env → Out D} (hc : PT X c (RdT X.K tb mc)) (ha : PE X a (RdO X.K tb ma)) (hb : PE X b (RdO X.K tb mb)) :
    PE X (.IfExp c a b pos) (RdO X.K tb fun r => (mc r).bnd fun t r => if t then ma r else mb r) := by
  refine mkPE (pe_ifExp hc ha hb) fun σ H Q ⟨G, r, fp, d, r', E, q, k⟩ => ?_
  obtain ⟨t, r1, e1, q⟩ := bnd_ok.mp q
  refine ⟨G, r, fp, t, r1, E, e1, fun H1 fp1 E1 P1 => ?_⟩
  cases t with
  | true => exact go_on E1 P1 q k
  | false => exact go_on E1 P1 q k
theorem s_ifT {c a b : Expr} {pos : Pos} {mc ma mb : Env → Out Bool} (hc : PT X c (RdT X.K tb mc)) (ha : PT X a (RdT X.K tb ma)) (hb : PT X b (RdT X.K tb mb)) :
    PT X (.IfExp c a b pos) (RdT X.K tb fun r => (mc r).bnd fun t r => if t then ma r else mb r) := by
  refine ⟨fun pins s σ H Q I ⟨G, r, fp, d, r', E, q, k⟩ => ?_⟩
  obtain ⟨t, r1, e1, q⟩ := bnd_ok.mp q
  show wpAny _ _ (do if ← isTrue c X.env (eval c X.env) then isTrue a X.env (eval a X.env) else isTrue b X.env (eval b X.env)) _ _ s
  refine wpAny_bind (thn (hc.run pins s σ H (fun t H1 => if t = true then RdT X.K tb ma σ H1 Q else RdT X.K tb mb σ H1 Q) I ⟨G, r, fp, t, r1, E, e1, fun H1 fp1 E1 P1 => ?_⟩) fun u s1 ⟨H1, I1, q1⟩ => ?_)
  · cases t with
    | true => exact go_onT E1 P1 q k
    | false => exact go_onT E1 P1 q k
  · cases u with
    | true => exact ha.run pins s1 σ H1 Q I1 q1
    | false => exact hb.run pins s1 σ H1 Q I1 q1
/-- a value as a test -/
theorem s_truth {a : Expr} {ma : Env → Out D} (ha : PE X a (RdP X.K tb ma)) (he : ∀ whole, isTrue a X.env whole = (do let v ← whole; standAt a.pos; holding [v] (truthy v))) :
    PT X a (RdT X.K tb fun r => (ma r).bnd fun d r => .lift (tru d) r) := by
  refine mkPT (pt_truth ha he) fun σ H Q ⟨G, r, fp, d, r', E, q, k⟩ => ?_
  obtain ⟨x, r1, e1, q1⟩ := bnd_ok.mp q
  obtain ⟨e3, rfl⟩ := lift_ok.mp q1
  exact ⟨G, r, fp, x, _, E, e1, fun v H' fp' f E' ro P => ⟨d, tru_of ro e3, k H' fp' E' P⟩⟩
end
end Sf
end
section
set_option Elab.async false
set_option maxRecDepth 100000
set_option linter.all false
/-! SfRd2: displays, items, slices, built-ins, methods, what is walked. -/
namespace Sf
open PySem PySem.Spec PyProof.Rows L2

def notStar : Expr → Bool
  | .Starred _ _ => false
  | _ => true
section
variable {X : Cx} {K : PySem.W.Frag} {tb : List Addr} {H H' : Hp} {G : Addr → Prop} {r r' : Env} {σ : L2.St} {fp fp' : Nat → List Addr}
theorem starE {e : Expr} (es : List Expr) (env : PySem.Env) (h : notStar e = true) : starEach (e :: es) env = (false, eval e env) :: starEach es env := by
  cases e <;> first | rfl | simp [notStar] at h

/-! ### displays -/
theorem a_nil : PA X [] (RdA X.K tb (evz [])) := by
  refine mkPA pa_nil fun σ H Q ⟨G, r, fp, ds, r', E, q, k⟩ => ?_
  have q' : Out.ok [] r = Out.ok ds r' := q
  cases q'
  exact k [] H fp E .nil Pres.refl
theorem a_cons {e : Expr} {es : List Expr} {m : Md} {ms : List Md} (hn : notStar e = true) (h : PE X e (RdZ X.K tb m.z)) (ht : PA X es (RdA X.K tb (evz ms))) : PA X (e :: es) (RdA X.K tb (evz (m :: ms))) := by
  refine mkPA (pa_cons h ht (starE es X.env hn)) fun σ H Q ⟨G, r, fp, ds, r', E, q, k⟩ => ?_
  obtain ⟨x, r1, e1, q1⟩ := bnd_ok.mp (show (m.z r).bnd (fun d r => (evz ms r).bnd fun ds r => .ok (d :: ds) r) = .ok ds r' from q)
  obtain ⟨xs, r2, e2, q2⟩ := bnd_ok.mp q1
  cases q2
  exact ⟨G, r, fp, x, r1, E, e1, fun v H1 fp1 E1 z1 P1 => ⟨G, r1, fp1, xs, _, E1, e2, fun vs H2 fp2 E2 z2 P2 => k (v :: vs) H2 fp2 E2 (.cons (z1.keep P2.kp) z2) (P1.trans P2)⟩⟩
theorem s_tup {es : List Expr} {x1} {pos : Pos} {m : Env → Out (List D)} (h : PA X es (RdA X.K tb m)) :
    PE X (.Tuple es x1 pos) (RdO X.K tb fun r => (m r).bnd fun ds r => .lift (if ds.length ≤ SZ then some (.tup ds) else none) r) := by
  refine mkPE (pe_tup h) fun σ H Q ⟨G, r, fp, d, r', E, q, k⟩ => ?_
  obtain ⟨ds, r1, e1, q1⟩ := bnd_ok.mp q
  obtain ⟨e2, rfl⟩ := lift_ok.mp q1
  simp only [Option.ite_none_right_eq_some, Option.some.injEq] at e2
  obtain ⟨hz, rfl⟩ := e2
  exact ⟨G, r, fp, ds, _, E, e1, fun vs H1 fp1 E1 z1 P1 => ⟨by rw [← z1.len, szLine]; exact hz, fun p hp => made_end E1 P1 k (.tup hp hz z1)⟩⟩
theorem s_lst {es : List Expr} {pos : Pos} {m : Env → Out (List D)} (h : PA X es (RdA X.K tb m)) :
    PE X (.List es pos) (RdO X.K tb fun r => (m r).bnd fun ds r => .lift (if ds.length ≤ SZ then some (.lst true ds) else none) r) := by
  refine mkPE (pe_lst h) fun σ H Q ⟨G, r, fp, d, r', E, q, k⟩ => ?_
  obtain ⟨ds, r1, e1, q1⟩ := bnd_ok.mp q
  obtain ⟨e2, rfl⟩ := lift_ok.mp q1
  simp only [Option.ite_none_right_eq_some, Option.some.injEq] at e2
  obtain ⟨hz, rfl⟩ := e2
  exact ⟨G, r, fp, ds, _, E, e1, fun vs H1 fp1 E1 z1 P1 => ⟨by rw [← z1.len, szLine]; exact hz, fun p hp => made_end E1 P1 k (.lst hp hz z1)⟩⟩
theorem s_dic {pos : Pos} : PE X (.Dict [] [] pos) (RdO X.K tb fun r => .ok (.dic true [] []) r) := by
  refine mkPE pe_dnewT fun σ H Q ⟨G, r, fp, d, r', E, q, k⟩ => ?_
  cases q
  exact fun p hp => made_end E Pres.refl k (.dic hp)

/-! ### items, slices -/
theorem plainIx {i : Expr} (h : ∀ a b c p, i ≠ .Slice a b c p) : PlainIx i := by
  intro o v
  cases i <;> first | rfl | exact absurd rfl (h _ _ _ _)
theorem s_sub {a i : Expr} {pos : Pos} {ma mi : Env → Out D} (hp : ∀ a b c p, i ≠ .Slice a b c p) (ha : PE X a (RdZ X.K tb ma)) (hi : PE X i (RdZ X.K tb mi)) :
    PE X (.Subscript a i pos) (RdO X.K tb fun r => (ma r).bnd fun x r => (mi r).bnd fun y r => .lift (idx x y) r) := by
  refine mkPE (pe_ix ix_any ha hi (plainIx hp)) fun σ H Q ⟨G, r, fp, d, r', E, q, k⟩ => ?_
  obtain ⟨x, r1, e1, q1⟩ := bnd_ok.mp q
  obtain ⟨y, r2, e2, q2⟩ := bnd_ok.mp q1
  obtain ⟨e3, rfl⟩ := lift_ok.mp q2
  exact ⟨G, r, fp, x, r1, E, e1, fun v1 H1 fp1 E1 z1 P1 => ⟨G, r1, fp1, y, _, E1, e2, fun v2 H2 fp2 E2 z2 P2 => ⟨Own G fp2, x, y, [], d, .z (z1.keep P2.kp), z2, e3, fun v hv => made_end E2 (P1.trans P2) k (.same hv)⟩⟩⟩
/-- a variable's list: its place is the same ahead and behind -/
theorem has_ok {i : Nat} {r r1 : Env} {d : D} (h : has i r = .ok d r1) : peek r i = some d ∧ r1 = r := lift_ok.mp h
theorem EnvR.same {r1 : Env} {H1 : Hp} {G1 : Addr → Prop} {fp1 : Nat → List Addr} {i : Nat} {d1 : D} {v : V} (E1 : EnvR K tb H1 G1 r1 σ fp1) (h : σ[i]? = some (some v)) (h1 : peek r1 i = some d1) : RO K H1 (Own G1 fp1) d1 v (fp1 i) := by
  obtain ⟨v', h2, ro⟩ := E1.rel i d1 h1
  rw [h] at h2; cases h2
  exact ro
theorem s_subV {a : Expr} {i : Expr} {pos : Pos} {s : Nat} {mi : Env → Out D} (hp : ∀ a b c p, i ≠ .Slice a b c p) (ha : PE X a (tVar s)) (hi : PE X i (RdZ X.K tb mi)) :
    PE X (.Subscript a i pos) (RdO X.K tb fun r => (has s r).bnd fun _ r => (mi r).bnd fun y r => .lift ((peek r s).bind fun x => idx x y) r) := by
  refine mkPE (pe_ix ix_any ha hi (plainIx hp)) fun σ H Q ⟨G, r, fp, d, r', E, q, k⟩ => ?_
  obtain ⟨x0, r0, e0, q1⟩ := bnd_ok.mp q
  obtain ⟨hx0, e5⟩ := has_ok e0
  rw [e5] at q1
  obtain ⟨y, r2, e2, q2⟩ := bnd_ok.mp q1
  obtain ⟨e3, rfl⟩ := lift_ok.mp q2
  obtain ⟨v, hσ, _⟩ := E.rel s x0 hx0
  cases hpk : peek r' s with
  | none => rw [hpk] at e3; cases e3
  | some x =>
    rw [hpk] at e3
    exact ⟨v, hσ, ⟨G, r, fp, y, _, E, e2, fun v2 H2 fp2 E2 z2 P2 => ⟨Own G fp2, x, y, _, d, E2.same hσ hpk, z2, e3, fun v hv => made_end E2 P2 k (.same hv)⟩⟩⟩
def RdPo (K : PySem.W.Frag) (tb : List Addr) (m : Env → Out (Option Int)) : TO := fun σ H Q => ∃ G r fp d r', EnvR K tb H G r σ fp ∧ m r = .ok d r' ∧ ∀ H' fp', EnvR K tb H' G r' σ fp' → Pres H fp H' fp' → Q d H'
theorem po_no : PO X none (RdPo X.K tb (evo none)) := by
  refine ⟨fun pins s σ H Q I ⟨G, r, fp, d, r', E, q, k⟩ => po_none.run pins s σ H Q I ?_⟩
  have q' : Out.ok none r = Out.ok d r' := q
  cases q'
  exact k H fp E Pres.refl
theorem po_so {e : Expr} {m : Md} (h : PE X e (RdO X.K tb m.v)) : PO X (some e) (RdPo X.K tb (evo (some m))) := by
  refine ⟨fun pins s σ H Q I ⟨G, r, fp, d, r', E, q, k⟩ => (po_some h).run pins s σ H Q I ?_⟩
  obtain ⟨x, r1, e1, q1⟩ := bnd_ok.mp (show (m.v r).bnd (fun d r => .lift ((asInt d).map some) r) = .ok d r' from q)
  obtain ⟨e3, rfl⟩ := lift_ok.mp q1
  cases x <;> simp only [asInt, Option.map_none, Option.map_some, reduceCtorEq, Option.some.injEq] at e3
  subst e3
  refine ⟨G, r, fp, _, _, E, e1, fun v1 H1 fp1 f E1 hG ro P1 nw => ?_⟩
  obtain ⟨z, rfl⟩ := ro.zof rfl
  exact ⟨_, z.int_inv, k H1 fp1 E1.ofNil P1⟩
theorem s_slc {a : Expr} {lo hi : Option Expr} {p2 pos : Pos} {ma : Env → Out D} {ml mh : Env → Out (Option Int)} (ha : PE X a (RdZ X.K tb ma)) (hl : PO X lo (RdPo X.K tb ml)) (hh : PO X hi (RdPo X.K tb mh)) :
    PE X (.Subscript a (.Slice lo hi none p2) pos) (RdO X.K tb fun r => (ma r).bnd fun x r => (ml r).bnd fun l r => (mh r).bnd fun h r => .lift (slq x l h) r) := by
  refine mkPE (pe_slice sl_any ha hl hh) fun σ H Q ⟨G, r, fp, d, r', E, q, k⟩ => ?_
  obtain ⟨x, r1, e1, q1⟩ := bnd_ok.mp q
  obtain ⟨l, r2, e2, q2⟩ := bnd_ok.mp q1
  obtain ⟨h, r3, e3, q3⟩ := bnd_ok.mp q2
  obtain ⟨e4, rfl⟩ := lift_ok.mp q3
  exact ⟨G, r, fp, x, r1, E, e1, fun v1 H1 fp1 E1 z1 P1 => ⟨G, r1, fp1, l, r2, E1, e2, fun H2 fp2 E2 P2 => ⟨G, r2, fp2, h, _, E2, e3, fun H3 fp3 E3 P3 =>
    ⟨Own G fp3, x, [], d, .z ((z1.keep P2.kp).keep P3.kp), e4, fun v H' f m => made_end E3 ((P1.trans P2).trans P3) k m⟩⟩⟩⟩
theorem s_slcV {a : Expr} {s : Nat} {lo hi : Option Expr} {p2 pos : Pos} {ml mh : Env → Out (Option Int)} (ha : PE X a (tVar s)) (hl : PO X lo (RdPo X.K tb ml)) (hh : PO X hi (RdPo X.K tb mh)) :
    PE X (.Subscript a (.Slice lo hi none p2) pos) (RdO X.K tb fun r => (has s r).bnd fun _ r => (ml r).bnd fun l r => (mh r).bnd fun h r => .lift ((peek r s).bind fun x => slq x l h) r) := by
  refine mkPE (pe_slice sl_any ha hl hh) fun σ H Q ⟨G, r, fp, d, r', E, q, k⟩ => ?_
  obtain ⟨x0, r0, e0, q1⟩ := bnd_ok.mp q
  obtain ⟨hx0, e5⟩ := has_ok e0
  rw [e5] at q1
  obtain ⟨l, r2, e2, q2⟩ := bnd_ok.mp q1
  obtain ⟨h, r3, e3, q3⟩ := bnd_ok.mp q2
  obtain ⟨e4, rfl⟩ := lift_ok.mp q3
  obtain ⟨v, hσ, _⟩ := E.rel s x0 hx0
  cases hpk : peek r' s with
  | none => rw [hpk] at e4; cases e4
  | some x =>
    rw [hpk] at e4
    exact ⟨v, hσ, ⟨G, r, fp, l, r2, E, e2, fun H2 fp2 E2 P2 => ⟨G, r2, fp2, h, _, E2, e3, fun H3 fp3 E3 P3 =>
      ⟨Own G fp3, x, _, d, E3.same hσ hpk, e4, fun v H' f m => made_end E3 (P2.trans P3) k m⟩⟩⟩⟩

/-! ### built-ins -/
theorem boot_bi {x : Str} {b : Bi} (h : biOf x = some b) : bootBuiltins x = some (biFn b) ∧ x ≠ "__name__" ∧ (x == ("__debug__" : Str)) = false := by
  unfold biOf at h
  repeat' split at h
  all_goals first
    | (cases h; done)
    | (rename_i q; subst q; cases h; exact ⟨by decide +kernel, by decide +kernel, by decide +kernel⟩)
theorem boot_bi2 {x : Str} {b : Bi2} (h : bi2Of x = some b) : bootBuiltins x = some (bi2Fn b) ∧ x ≠ "__name__" ∧ (x == ("__debug__" : Str)) = false := by
  unfold bi2Of at h
  repeat' split at h
  all_goals first
    | (cases h; done)
    | (rename_i q; subst q; cases h; exact ⟨by decide +kernel, by decide +kernel, by decide +kernel⟩)
theorem pe_callV {x : Str} {f : Value} {p pos : Pos} {e : Expr} {es : List Expr} {t : TA} {r : List V → Hp → VK → Prop} (hf : (∃ id, f = .builtin id) ∨ ∃ T, f = .type T) (hc : CallR X f r) (hg : Gl X x) (hm : X.mg x = none) (hv : bootBuiltins x = some f) (ha : PA X (e :: es) t) (hn : x ≠ "__name__") (hdb : (x == ("__debug__" : Str)) = false)
    (hs : notStar e = true) (hpl : (backTo pos (starEach es X.env)).any (·.1) = false) : PE X (.Call (.Name x p) (e :: es) [] pos) (tCB r t) := by
  rcases hf with ⟨id, rfl⟩ | ⟨T, rfl⟩
  · exact pe_callB hc hg hm hv ha hn hdb (starE es X.env hs) hpl
  · exact pe_callTy hc hg hm hv ha hn hdb (starE es X.env hs) hpl
theorem biFn_k (b : Bi) : (∃ id, biFn b = .builtin id) ∨ ∃ T, biFn b = .type T := by cases b <;> first | exact .inl ⟨_, rfl⟩ | exact .inr ⟨_, rfl⟩
theorem bi2Fn_k (b : Bi2) : (∃ id, bi2Fn b = .builtin id) ∨ ∃ T, bi2Fn b = .type T := by cases b <;> first | exact .inl ⟨_, rfl⟩ | exact .inr ⟨_, rfl⟩
theorem s_bi {x : Str} {b : Bi} {a : Expr} {p pos : Pos} {ma : Env → Out D} (hb : biOf x = some b) (hg : Gl X x) (hm : X.mg x = none) (hs : notStar a = true) (ha : PE X a (RdP X.K tb ma)) :
    PE X (.Call (.Name x p) [a] [] pos) (RdO X.K tb fun r => (ma r).bnd fun x r => .lift (bltf b x) r) := by
  obtain ⟨h1, h2, h3⟩ := boot_bi hb
  refine mkPE (pe_callV (biFn_k b) (call_bi b) hg hm h1 (pa_cons ha pa_nil (starE [] X.env hs)) h2 h3 hs rfl) fun σ H Q ⟨G, r, fp, d, r', E, q, k⟩ => ?_
  obtain ⟨y, r1, e1, q1⟩ := bnd_ok.mp q
  obtain ⟨e3, rfl⟩ := lift_ok.mp q1
  exact ⟨G, r, fp, y, _, E, e1, fun v H1 fp1 f1 E1 ro P1 => ⟨Own G fp1, v, y, f1, d, rfl, ro, e3, fun v' H' f m => made_end E1 P1 k m⟩⟩
theorem plain1 {e : Expr} {env : PySem.Env} {pos : Pos} (h : notStar e = true) : (backTo pos (starEach [e] env)).any (·.1) = false := by rw [starE [] env h]; rfl
theorem s_bi2 {x : Str} {b : Bi2} {a c : Expr} {p pos : Pos} {ma mc : Env → Out D} (hcalm : X.calm = true) (hb : bi2Of x = some b) (hg : Gl X x) (hm : X.mg x = none) (hs : notStar a = true) (hs2 : notStar c = true) (ha : PE X a (RdZ X.K tb ma)) (hc : PE X c (RdZ X.K tb mc)) :
    PE X (.Call (.Name x p) [a, c] [] pos) (RdO X.K tb fun r => (ma r).bnd fun x r => (mc r).bnd fun y r => .lift (bltg b x y) r) := by
  obtain ⟨h1, h2, h3⟩ := boot_bi2 hb
  refine mkPE (pe_callV (bi2Fn_k b) (call_bi2 hcalm b) hg hm h1 (pa_cons ha (pa_cons hc pa_nil (starE [] X.env hs2)) (starE [c] X.env hs)) h2 h3 hs (plain1 hs2)) fun σ H Q ⟨G, r, fp, d, r', E, q, k⟩ => ?_
  obtain ⟨y, r1, e1, q1⟩ := bnd_ok.mp q
  obtain ⟨z, r2, e2, q2⟩ := bnd_ok.mp q1
  obtain ⟨e3, rfl⟩ := lift_ok.mp q2
  exact ⟨G, r, fp, y, r1, E, e1, fun v H1 fp1 E1 z1 P1 => ⟨G, r1, fp1, z, _, E1, e2, fun w H2 fp2 E2 z2 P2 => ⟨Own G fp2, v, w, y, z, d, rfl, z1.keep P2.kp, z2, e3, fun v' H' f m => made_end E2 (P1.trans P2) k m⟩⟩⟩
theorem boot_ty {x : Str} {t : Ty} (h : tyOf x = some t) : bootBuiltins x = some (.type (tyN t)) ∧ x ≠ "__name__" ∧ (x == ("__debug__" : Str)) = false := by
  unfold tyOf at h
  repeat' split at h
  all_goals first
    | (cases h; done)
    | (rename_i q; subst q; cases h; exact ⟨by decide +kernel, by decide +kernel, by decide +kernel⟩)
theorem s_isi {a : Expr} {t : Str} {ty : Ty} {p p2 pos : Pos} {ma : Env → Out D} (hg : Gl X "isinstance") (hm : X.mg "isinstance" = none) (ht : tyOf t = some ty) (hg2 : Gl X t) (hm2 : X.mg t = none) (hs : notStar a = true) (ha : PE X a (RdZ X.K tb ma)) :
    PE X (.Call (.Name "isinstance" p) [a, .Name t p2] [] pos) (RdO X.K tb fun r => (ma r).bnd fun x r => .lift ((isiq x ty).map .bl) r) := by
  obtain ⟨h1, h2, h3⟩ := boot_ty ht
  refine mkPE (pe_callB call_isi hg hm boot_isinstance (pa_cons ha (pa_cons (pe_bltn (v := .ty (tyN ty)) hg2 hm2 h1 rfl h2 h3) pa_nil (starE [] X.env rfl)) (starE [_] X.env hs)) (by decide +kernel) (by decide +kernel) (starE [_] X.env hs) rfl) fun σ H Q ⟨G, r, fp, d, r', E, q, k⟩ => ?_
  obtain ⟨y, r1, e1, q1⟩ := bnd_ok.mp q
  obtain ⟨e3, rfl⟩ := lift_ok.mp q1
  cases hi : isiq y ty with
  | none => rw [hi] at e3; cases e3
  | some b =>
    rw [hi] at e3; cases e3
    refine ⟨G, r, fp, y, _, E, e1, fun v H1 fp1 E1 z1 P1 => ?_⟩
    obtain ⟨tt, h4, h5⟩ := isi_of z1 hi
    exact ⟨v, .ty (tyN ty), tt, _, b, rfl, .ty _, h4, h5, bl_end E1 P1 k⟩
end
end Sf
end
section
set_option Elab.async false
set_option maxRecDepth 100000
set_option linter.all false
/-! SfEnum: enumerate over a tuple. -/
namespace Sf
open PySem PySem.Spec PyProof.Rows L2
open AutoSeq1 (wpAny_loadPart')

set_option maxHeartbeats 2000000 in
theorem meets_enumerate_newT (l : Addr) (items : Array Value) (ob : Obj) (hT : ob.cls = .type "tuple") (hd : ∃ n, ob.data = .seq items n) :
    Meets (Builtin.«enumerate.__new__» ⟨[.type "enumerate", .ref l], []⟩) (fun _ R s => s.heap.get? l = some ob ∧
      R (.ok (.ret (.ref (s.heap.push { cls := .type "tuple_iterator", data := .fields #[.ref l, .int 0 0] }).objs.size)))
        { s with heap := (s.heap.push { cls := .type "tuple_iterator", data := .fields #[.ref l, .int 0 0] }).push { cls := .type "enumerate", data := .fields #[.none, .bool false, .ref s.heap.objs.size, rawInt 0, .none, .none] } }) :=
  .of_wp fun prog w A R s h => by
    obtain ⟨hp, g, d, tk, os⟩ := s; obtain ⟨hl, h⟩ := h
    have hsub := sub_enumerate
    obtain ⟨n, hd⟩ := hd
    have hL : Heap.IsTuple (Shared.heap ⟨hp, g, d, tk, os⟩) l items := ⟨_, hl, hT, n, hd⟩
    wp_walk using wpAny_loadPart' hl
    refine wpAny_stack_any fun st => wpAny_pure ?_
    split
    · rename_i c _ _ _ _ _
      cases (c == Value.type "enumerate")
      · wp_walk using wpAny_loadPart' hl, wpAny_pyIter_tuple hL
        exact ⟨_, rfl, h⟩
      · wp_walk using wpAny_loadPart' hl, wpAny_pyIter_tuple hL
        exact ⟨_, rfl, h⟩
    · wp_walk using wpAny_loadPart' hl, wpAny_pyIter_tuple hL
      exact ⟨_, rfl, h⟩
section
variable {prog : Program} {w : World} {A : Around} {E : Value → Shared → Prop} {s : Shared}
theorem call_enumerate_tuple {l : Addr} {items : Array Value} {Q : Value → Shared → Prop} (hL : s.heap.IsTuple l items)
    (h : ∀ h', IsEnum h' (s.heap.objs.size + 1) s.heap.objs.size 0 .none → h'.IsTupleIter s.heap.objs.size l 0 → h'.objs.size = s.heap.objs.size + 2 →
      (∀ b o, s.heap.get? b = some o → h'.get? b = some o) → Q (.ref (s.heap.objs.size + 1)) { s with heap := h' }) :
    wpAny (model prog w) A (call (.type "enumerate") [.ref l]) Q E s := by
  obtain ⟨ob, hl, hc, hd⟩ := hL
  refine callType_new F.called_enumerate (by decide) (F.typeCall_enumerate_1 _) (F.newCall_enumerate_1 _) (fun obj => F.args_object_init_2 obj _) F.entry_enumerate_new
    (meets_enumerate_newT l items ob hc hd) ⟨hl, ?_⟩
  have hz : (s.heap.push { cls := .type "tuple_iterator", data := .fields #[.ref l, .int 0 0] }).objs.size = s.heap.objs.size + 1 := Heap.size_push ..
  show _ ∧ _
  rw [hz]
  have he : IsEnum ((s.heap.push { cls := .type "tuple_iterator", data := .fields #[.ref l, .int 0 0] }).push
      { cls := .type "enumerate", data := .fields #[.none, .bool false, .ref s.heap.objs.size, rawInt 0, .none, .none] }) (s.heap.objs.size + 1) s.heap.objs.size 0 .none := by
    have := Heap.get?_push_size (s.heap.push { cls := .type "tuple_iterator", data := .fields #[.ref l, .int 0 0] })
      (o := { cls := .type "enumerate", data := .fields #[.none, .bool false, .ref s.heap.objs.size, rawInt 0, .none, .none] }) rfl
    rw [hz] at this; exact this
  refine ⟨⟨_, he, rfl⟩, h _ he ⟨_, Heap.get?_push_of_some _ (Heap.get?_push_size _ rfl), rfl, rfl⟩ (by rw [Heap.size_push, hz]) fun b o x => Heap.get?_push_of_some _ (Heap.get?_push_of_some _ x)⟩
end
/-- the tuple at a, each item in a new pair -/
def IteT (K : PySem.W.Frag) (a : Addr) : It :=
  ⟨fun i H => ∃ (xs : List V) (x : V), SqT K H a xs ∧ xs[i]? = some x, fun i H v H' => ∃ T x, v = .ref T ∧ H T = none ∧ H' = upd H T (.tup [.int (i : Nat), x]) ∧ ∀ xs, SqT K H a xs → xs[i]? = some x, fun i H => ∃ xs : List V, SqT K H a xs ∧ xs.length = i⟩
theorem turn_enumT {P : Program} {w : World} {K : PySem.W.Frag} {elts : List Expr} {kk : Nat} {tpos : Pos} (a e it : Addr) (hae : a ≠ e) (hai : a ≠ it) :
    Turn P w K (.Tuple elts kk tpos) (IteT K a) [e, it] e (fun i h => (∃ old, IsEnum h e it ((i : Nat) : Int) old) ∧ h.IsTupleIter it a i ∧ e ≠ it) where
  mem := by simp
  obj := fun i h st b hb => by
    obtain ⟨⟨old, he⟩, ⟨o, ho, hc, hd⟩, _⟩ := st
    have e' : b = e ∨ b = it := by simpa using hb
    rcases e' with z | z
    · rw [z]; exact ⟨_, he, fun v q => nomatch q⟩
    · rw [z]; exact ⟨o, ho, fun v q => by rw [hd] at q; cases q⟩
  keep := fun i h h' st k => let ⟨⟨old, he⟩, hi, hne⟩ := st; ⟨⟨old, k e (by simp) _ he⟩, hi.at fun o q => k it (by simp) o q, hne⟩
  item := by
    intro X hP hw hK hc i pins s σ H E I hf st hg
    subst hP hw hK
    obtain ⟨⟨old, he⟩, hit, hne⟩ := st
    obtain ⟨xs, x, hq, hx⟩ := hg
    obtain ⟨its, rv, p, hz⟩ := I.tuple hq
    obtain ⟨u, hu, ru⟩ := rv.get hx
    have hel : e < s.heap.objs.size := Heap.lt_size he
    have hil : it < s.heap.objs.size := by obtain ⟨_, q, _⟩ := hit; exact Heap.lt_size q
    have hlt : i < its.toArray.size := by
      have := (List.getElem?_eq_some_iff.mp hu).1
      simpa using this
    refine wpAny_pyNext_enum_itemD (Draws.tuple (A := X.A.in1) (I.ok.hd hc) it a hai its.toArray) he ⟨hit, p⟩ hlt hne (by simp [hne, Ne.symm hae]) fun x' h' tk hx' ho st' hT hsz hk => ?_
    have e5 : x' = u := by
      have h5 : its.toArray[i]? = some x' := hx'
      have h6 : its[i]? = some x' := by simpa using h5
      rw [hu] at h6; exact (Option.some.inj h6).symm
    subst e5
    refine ⟨_, rfl, wpAny_letOwnedTupleGo_enum (s := { s with heap := h', toks := tk + 1 }) ho fun h'' he' sb => ?_⟩
    have hT2 : h''.get? s.heap.objs.size = some { cls := .type "tuple", data := .seq #[.int i tk, x'] } := (sb.2 _ (Nat.ne_of_gt hel)).trans hT
    have new : ObjOk X.prog X.w (upd H s.heap.objs.size (.tup [.int (i : Nat), x])) h'' s.heap.objs.size (.tup [.int (i : Nat), x]) :=
      ⟨by show 2 ≤ sizeLine; decide, [.int i tk, x'], .cons ⟨_, rfl⟩ (.cons ru .nil), ⟨_, hT2, rfl, _, rfl⟩⟩
    have I1 : Inv X pins σ (upd H s.heap.objs.size (.tup [.int (i : Nat), x])) { s with heap := h'', toks := tk + 1 } :=
      I.turnedNew (ch := [e, it]) (fun b ob hb q => (sb.2 b (fun z => hb (by simp [z]))).trans (hk b ob (fun z => hb (by simp [z])) (fun z => hb (by simp [z])) q)) hf (Nat.le_refl _) new
    refine ⟨.ref s.heap.objs.size, _, I1, rfl, ⟨_, x, rfl, I.hok.fresh (Nat.le_refl _), rfl, fun ys hy => by rw [I.tuple_inj hy hq]; exact hx⟩, ⟨⟨x', ?_⟩, st'.1.at fun o q => (sb.2 it (Ne.symm hne)).trans q, hne⟩, fun b hb => ?_⟩
    · have e1 : ((i + 1 : Nat) : Int) = (i : Int) + 1 := by omega
      rw [e1]; exact he'
    · have hb' : b < s.heap.objs.size := by
        have e' : b = e ∨ b = it := by simpa using hb
        rcases e' with z | z
        · rw [z]; exact hel
        · rw [z]; exact hil
      rw [upd_ne (Nat.ne_of_lt hb')]
      exact (hf b hb).1
  done := by
    intro X hP hw hK hc i pins s σ H E I hf st hg
    subst hP hw hK
    obtain ⟨⟨old, he⟩, hit, hne⟩ := st
    obtain ⟨xs, hq, hx⟩ := hg
    obtain ⟨its, rv, p, hz⟩ := I.tuple hq
    obtain ⟨f0, f1, f2, f3, f4, f5⟩ := hf it (by simp)
    have hl := rv.length
    have hn : its.toArray.size = i := by simp; omega
    subst hn
    exact wpAny_pyNext_enum_endD (Draws.tuple (A := X.A.in1) (I.ok.hd hc) it a hai its.toArray) he ⟨hit, p⟩ fun h' eb => ⟨rfl, I.turned (t' := s.toks) (fun b o hb q => eb b o hb q) f0 f1 f3 f4 f5⟩
  self := fun A i s Q E st h => let ⟨⟨_, he⟩, _⟩ := st; wpAny_pyIter_enum he h
def iEnumA (K : PySem.W.Frag) (ta : TA) : TI := fun σ H R => ta σ H fun vs H1 => ∃ a xs, vs = [.ref a] ∧ ((SqL K H1 a xs ∧ R (Ite K a) H1) ∨ (SqT K H1 a xs ∧ R (IteT K a) H1))
theorem pi_enumA {X : Cx} {e : Expr} {ta : TA} {p pos tpos : Pos} {elts : List Expr} {kk : Nat} (hg : Gl X "enumerate") (hm : X.mg "enumerate" = none) (ha : PA X [e] ta) (hs : starEach [e] X.env = [(false, eval e X.env)] := by rfl) :
    PI X (.Tuple elts kk tpos) (.Call (.Name "enumerate" p) [e] [] pos) (iEnumA X.K ta) := by
  refine ⟨fun pins s σ H R I h => ?_⟩
  refine Call_ (ld_blt I hg hm boot_enumerate (PyProof.Rows.callWith_type1 (thn (ha.run pos pins s σ H _ I h) fun us s1 ⟨vs, H1, I1, r1, q1⟩ => ?_) hs rfl))
  obtain ⟨a, xs, ex, q⟩ := q1
  subst ex
  cases r1 with
  | cons r rr =>
    cases rr
    cases r
    have fr : ∀ b, b ∈ [s1.heap.objs.size + 1, s1.heap.objs.size] → FpOk X pins H1 b := fun b hb => by
      have e' : b = s1.heap.objs.size + 1 ∨ b = s1.heap.objs.size := by simpa using hb
      have hle : s1.heap.objs.size ≤ b := by
        rcases e' with z | z
        · rw [z]; exact Nat.le_add_right _ _
        · rw [z]; exact Nat.le_refl _
      exact I1.fpOk hle (I1.hok.fresh hle)
    rcases q with ⟨hq, q⟩ | ⟨hq, q⟩
    · obtain ⟨its, rv, p', hz⟩ := I1.list hq
      refine call_enumerate_list p'.isList fun h' he hit hsz hk => wpAny_pyIter_enum he ?_
      have I2 : Inv X pins σ H1 { s1 with heap := h' } := I1.kept (t' := s1.toks) hk
      exact ⟨s1.heap.objs.size + 1, [s1.heap.objs.size + 1, s1.heap.objs.size], _, _, H1, rfl, I2, turn_enum a (s1.heap.objs.size + 1) s1.heap.objs.size, ⟨⟨.none, he⟩, hit, Nat.succ_ne_self _⟩, fr, q⟩
    · obtain ⟨its, rv, p', hz⟩ := I1.tuple hq
      obtain ⟨o1, ho1, _⟩ := id p'
      have hal := Heap.lt_size ho1
      refine call_enumerate_tuple p' fun h' he hit hsz hk => wpAny_pyIter_enum he ?_
      have I2 : Inv X pins σ H1 { s1 with heap := h' } := I1.kept (t' := s1.toks) hk
      exact ⟨s1.heap.objs.size + 1, [s1.heap.objs.size + 1, s1.heap.objs.size], _, _, H1, rfl, I2, turn_enumT a (s1.heap.objs.size + 1) s1.heap.objs.size (Nat.ne_of_lt (Nat.lt_succ_of_lt hal)) (Nat.ne_of_lt hal), ⟨⟨.none, he⟩, hit, Nat.succ_ne_self _⟩, fr, q⟩
theorem walk_enumT {K : PySem.W.Frag} {a : Addr} {xs : List V} : Walk (IteT K a) xs.length (fun H => SqT K H a xs) (YPair (fun i => some (.int (i : Nat))) (fun i => xs[i]?)) := by
  refine ⟨fun i _ hi q => ⟨xs, xs[i], q, by simp [hi]⟩, fun _ q => ⟨xs, q, rfl⟩, fun i H v H' _ q y => ?_⟩
  obtain ⟨T, x, h1, h2, h3, h4⟩ := y
  exact ⟨T, .int (i : Nat), x, h1, h2, h3, rfl, h4 xs q⟩
theorem walk_zipT {K : PySem.W.Frag} {a b : Addr} {xs ys : List V} {n : Nat} (hn : n = min xs.length ys.length) : Walk (_root_.RZ.ItzT K a b) n (fun H => SqT K H a xs ∧ SqT K H b ys) (YPair (fun i => xs[i]?) (fun i => ys[i]?)) := by
  subst hn
  refine ⟨fun i _ hi q => ?_, fun _ q => ⟨xs, ys, q.1, q.2, by omega⟩, fun i H v H' _ q y => ?_⟩
  · have h1 : i < xs.length := by omega
    have h2 : i < ys.length := by omega
    exact ⟨xs, ys, xs[i], ys[i], q.1, q.2, by simp [h1], by simp [h2]⟩
  · obtain ⟨T, x, z, h1, h2, h3, h4, h5⟩ := y
    exact ⟨T, x, z, h1, h2, h3, h4 xs q.1, h5 ys q.2⟩
end Sf
end
section
set_option Elab.async false
set_option maxRecDepth 100000
set_option linter.all false
/-! SfRd3: methods that change, what is walked. -/
namespace Sf
open PySem PySem.Spec PyProof.Rows L2

section
variable {X : Cx} {K : PySem.W.Frag} {tb : List Addr} {H H' : Hp} {G : Addr → Prop} {r r' : Env} {σ : L2.St} {fp fp' : Nat → List Addr}
/-- a list that a variable owns -/
theorem EnvR.lst (E : EnvR K tb H G r σ fp) {i : Nat} {ds : List D} (h : peek r i = some (.lst true ds)) : ∃ a vs, σ[i]? = some (some (.ref a)) ∧ fp i = [a] ∧ H a = some (.lst vs) ∧ ds.length ≤ SZ ∧ RZs K H (Own G fp) ds vs := by
  obtain ⟨v, hσ, ro⟩ := E.rel i _ h
  generalize hf : fp i = f at ro
  cases ro with
  | lst e z r => exact ⟨_, _, hσ, rfl, e, z, r⟩
  | z r => cases r
theorem EnvR.dic (E : EnvR K tb H G r σ fp) {i : Nat} {ks vs : List D} (h : peek r i = some (.dic true ks vs)) : ∃ a kvs, σ[i]? = some (some (.ref a)) ∧ fp i = [a] ∧ H a = some (.dT kvs) ∧ ks.map keyQ = kvs.map (fun p => some p.1) ∧ RZs K H (Own G fp) vs (kvs.map (·.2)) := by
  obtain ⟨v, hσ, ro⟩ := E.rel i _ h
  generalize hf : fp i = f at ro
  cases ro with
  | dic e q u r => subst u; exact ⟨_, _, hσ, rfl, e, q, r⟩
  | z r => cases r
/-- what stands still is not hit by a change of what is owned -/
theorem EnvR.kpw (E : EnvR K tb H G r σ fp) {i : Nat} {a : Addr} {o u : HO} (hf : a ∈ fp i) (hu : H a = some u) (h1 : ∀ x y, u ≠ .frz x y) : Keep H (upd H a o) (Own G fp) (Own G fp) :=
  ⟨fun b w eb n _ => ⟨by rw [upd_ne (fun (z : b = a) => n (by rw [z]; exact .inr ⟨i, hf⟩))]; exact eb, n⟩, fun b x y eb => by
    rw [upd_ne]; exact eb
    intro z; subst z
    rw [hu] at eb; cases eb
    exact h1 _ _ rfl⟩
theorem EnvR.wlst (E : EnvR K tb H G r σ fp) {i : Nat} {a : Addr} {ds ds' : List D} {vs vs' : List V} (h : peek r i = some (.lst true ds)) (hf : fp i = [a]) (ha : H a = some (.lst vs)) (hz : ds'.length ≤ SZ) (hr : RZs K H (Own G fp) ds' vs') :
    EnvR K tb (upd H a (.lst vs')) G (putE r i (.lst true ds')) σ fp ∧ Pres H fp (upd H a (.lst vs')) fp ∧ Keep H (upd H a (.lst vs')) (Own G fp) (Own G fp) := by
  have hm : a ∈ fp i := by rw [hf]; simp
  have kp := E.kpw (o := .lst vs') hm ha (fun _ _ q => nomatch q)
  exact ⟨E.write h hf (fun _ q => nomatch q) fun v hσ ro => by
    cases ro with
    | lst e z r => exact .lst upd_same hz (hr.keep kp), pres_write hm ⟨_, ha, (fun _ _ q => nomatch q), (fun _ q => nomatch q)⟩, kp⟩
theorem EnvR.ofNil' {f : List Addr} (e : EnvR K tb H (fun a => G a ∨ a ∈ f) r σ fp) : EnvR K tb H G r σ fp := e.less fun a z => .inl z
theorem hasL_ok {i : Nat} {r r1 : Env} {d : D} (h : hasL i r = .ok d r1) : (∃ o xs, peek r i = some (.lst o xs)) ∧ r1 = r := by
  unfold hasL at h
  split at h
  · rename_i o xs e; cases h; exact ⟨⟨o, xs, e⟩, rfl⟩
  · cases h
theorem EnvR.isL (E : EnvR K tb H G r σ fp) {i : Nat} {o : Bool} {ds : List D} (h : peek r i = some (.lst o ds)) : ∃ a vs, σ[i]? = some (some (.ref a)) ∧ SqL K H a vs := by
  obtain ⟨v, hσ, ro⟩ := E.rel i _ h
  obtain ⟨a, vs, rfl, h1, _⟩ := ro.seq
  exact ⟨a, vs, hσ, SqL.of h1⟩
theorem s_pop0 {x : Str} {i : Nat} {p apos cpos : Pos} (ho : PE X (.Name x p) (tVar i)) (hl : (apos.endLine == cpos.line) = true) :
    PE X (.Call (.Attribute (.Name x p) "pop" apos) [] [] cpos) (RdO X.K tb fun r => match peek r i with
      | some (.lst true xs) => match xs[xs.length - 1]? with
        | some d => .ok d (putE r i (.lst true xs.dropLast))
        | none => .bad
      | _ => .bad) := by
  refine mkPE (pe_bm0 PySem.F.plainAttrs_list PySem.F.slot_list_pop PySem.F.type_list_pop mt_pop ho rfl hl) fun σ H Q ⟨G, r, fp, d, r', E, q, k⟩ => ?_
  cases hp : peek r i with
  | none => simp only [hp] at q; cases q
  | some w =>
    simp only [hp] at q
    split at q
    · rename_i xs he
      cases he
      split at q
      · rename_i d0 hd
        cases q
        obtain ⟨a, vs, hσ, hf, ha, hz, rr⟩ := E.lst hp
        obtain ⟨v, hv, rv⟩ := rr.get hd
        obtain ⟨E', P', kp⟩ := E.wlst hp hf ha (ds' := xs.dropLast) (vs' := vs.dropLast) (by rw [List.length_dropLast]; omega) rr.dropLast
        refine ⟨_, hσ, .inl ⟨rfl, _, SqL.of ha⟩, a, vs, v, rfl, rfl, ha, by rw [← rr.len]; exact hv, ?_⟩
        exact k v _ fp [] E'.toNil (fun a ha => by simp at ha) (.z ((rv.keep kp).keep (keep_self fun a => own_nil))) P' fun a ha => by simp at ha
      · cases q
    · cases q
theorem ixq_lt {n j : Nat} {i : Int} (h : ixq n i = some j) : j < n ∧ -(n : Int) ≤ i ∧ i < n := by
  unfold ixq at h
  split at h
  · split at h
    · cases h; omega
    · cases h
  · split at h
    · cases h; omega
    · cases h
theorem ixq_seq {n : Nat} {i : Int} : ixq n i = seqIndex? i n := by
  unfold ixq seqIndex?
  by_cases h : 0 ≤ i
  · have h' : ¬ i < 0 := by omega
    simp only [h, h', if_true, if_false, decide_true, Bool.true_and, decide_eq_true_eq]
  · have h' : i < 0 := by omega
    by_cases q : -(n : Int) ≤ i
    · have q1 : 0 ≤ i + (n : Int) := by omega
      have q2 : i + (n : Int) < n := by omega
      simp [h, h', q, q1, q2]
    · have q1 : ¬ 0 ≤ i + (n : Int) := by omega
      simp [h, h', q, q1]
theorem s_pop1 {x : Str} {i : Nat} {p apos cpos : Pos} {e : Expr} {me : Env → Out D} (ho : PE X (.Name x p) (tVar i)) (hl : (apos.endLine == cpos.line) = true) (hs : notStar e = true) (he : PE X e (RdZ X.K tb me)) :
    PE X (.Call (.Attribute (.Name x p) "pop" apos) [e] [] cpos) (RdO X.K tb fun r => (hasL i r).bnd fun _ r => (me r).bnd fun k r => match peek r i, k with
      | some (.lst true xs), .int k => match ixq xs.length k with
        | some j => match xs[j]? with
          | some d => .ok d (putE r i (.lst true (xs.eraseIdx j)))
          | none => .bad
        | none => .bad
      | _, _ => .bad) := by
  refine mkPE (pe_bm PySem.F.plainAttrs_list PySem.F.slot_list_pop PySem.F.type_list_pop mt_popAt ho (pa_cons he pa_nil (starE [] X.env hs)) rfl (by rw [starE [] X.env hs]; rfl) hl (starE [] X.env hs) rfl) fun σ H Q ⟨G, r, fp, d, r', E, q, k⟩ => ?_
  obtain ⟨x0, r0, e0, q1⟩ := bnd_ok.mp q
  obtain ⟨⟨o0, xs0, hx0⟩, e5⟩ := hasL_ok e0
  rw [e5] at q1
  obtain ⟨y, r2, e2, q2⟩ := bnd_ok.mp q1
  obtain ⟨a0, vs0, hσ0, sq0⟩ := E.isL hx0
  split at q2
  · rename_i xs kk hp
    split at q2
    · rename_i j hj
      split at q2
      · rename_i d0 hd
        cases q2
        refine ⟨.ref a0, hσ0, .inl ⟨rfl, _, sq0⟩, G, r, fp, _, _, E, e2, fun v1 H1 fp1 E1 z1 P1 => ?_⟩
        obtain ⟨a, vs, hσ, hf, ha, hz, rr⟩ := E1.lst hp
        obtain ⟨v, hv, rv⟩ := rr.get hd
        obtain ⟨E', P', kp⟩ := E1.wlst hp hf ha (ds' := xs.eraseIdx j) (vs' := vs.eraseIdx j) (Nat.le_trans (len_erase xs j) hz) (rr.eraseIdx j)
        have b := ixq_lt hj
        have hz' : xs.length ≤ 16777216 := hz
        refine ⟨a, vs, kk, j, v, ?_, ?_, ha, by omega, by omega, ?_, hv, ?_⟩
        · rw [hσ0] at hσ; cases hσ; rfl
        · rw [z1.int_inv]
        · rw [← rr.len, ← ixq_seq]; exact hj
        · exact k v _ fp1 [] E'.toNil (fun a ha => by simp at ha) (.z ((rv.keep kp).keep (keep_self fun a => own_nil))) (P1.trans P') fun a ha => by simp at ha
      · cases q2
    · cases q2
  · cases q2
/-! ### what is walked -/
theorem mkItT {H : Hp} {O : Addr → Prop} {ds : List D} {a : Addr} {vs : List V} (n : ¬ O a) (h : H a = some (.tup vs)) (r : RZs K H O ds vs) : ItOk K (Itt K a) H O ds := by
  refine ⟨fun H2 => H2 a = some (.tup vs), h, fun H2 O2 kp => (kp.obj a _ h n (fun _ q => nomatch q)).1, ?_⟩
  rw [r.len]
  refine walk_tup.mono (fun H2 h2 => SqT.of h2) fun i H2 x H3 hi h2 y => ?_
  obtain ⟨rfl, hx⟩ := y
  obtain ⟨d, hd, rd⟩ := r.getV hx
  exact ⟨.same, d, hd, fun O2 kp _ => rd.keep kp⟩
theorem mkItL {H : Hp} {O : Addr → Prop} {ds : List D} {a : Addr} {vs : List V} (n : ¬ O a) (h : H a = some (.lst vs)) (r : RZs K H O ds vs) : ItOk K (Itl K a) H O ds := by
  refine ⟨fun H2 => H2 a = some (.lst vs), h, fun H2 O2 kp => (kp.obj a _ h n (fun _ q => nomatch q)).1, ?_⟩
  rw [r.len]
  refine walk_list.mono (fun H2 h2 => SqL.of h2) fun i H2 x H3 hi h2 y => ?_
  obtain ⟨rfl, hx⟩ := y
  obtain ⟨d, hd, rd⟩ := r.getV hx
  exact ⟨.same, d, hd, fun O2 kp _ => rd.keep kp⟩
theorem mkItS {H : Hp} {O : Addr → Prop} {xs : List Nat} : ItOk K (Its (Sg xs)) H O (xs.map fun c => .str [c]) := by
  refine ⟨fun _ => True, trivial, fun _ _ _ => trivial, ?_⟩
  have e : (xs.map fun c => D.str [c]).length = (Sg xs).cps.size := by simp [Sg]
  rw [e]
  refine walk_str.mono (fun H2 h2 => h2) fun i H2 x H3 hi h2 y => ?_
  obtain ⟨rfl, c, hc, rfl⟩ := y
  refine ⟨.same, .str [c], ?_, fun O2 _ _ => .str [c]⟩
  have hc' : xs[i]? = some c := by simpa [Sg] using hc
  rw [List.getElem?_map, hc']
  rfl
theorem mkItR {H : Hp} {O : Addr → Prop} {lo : Int} {n : Nat} : ItOk K (Itr lo n) H O (rngq lo 1 n) := by
  refine ⟨fun _ => True, trivial, fun _ _ _ => trivial, ?_⟩
  have e : (rngq lo 1 n).length = n := by simp [rngq]
  rw [e]
  refine walk_range.mono (fun H2 h2 => h2) fun i H2 x H3 hi h2 y => ?_
  obtain ⟨rfl, rfl⟩ := y
  refine ⟨.same, .int (lo + i), ?_, fun O2 _ _ => .int _⟩
  simp [rngq, hi]
theorem mkItC {H : Hp} {O : Addr → Prop} {lo c : Int} {n : Nat} : ItOk K (Itc lo c n) H O (rngq lo c n) := by
  refine ⟨fun _ => True, trivial, fun _ _ _ => trivial, ?_⟩
  have e : (rngq lo c n).length = n := by simp [rngq]
  rw [e]
  refine walk_rangeC.mono (fun H2 h2 => h2) fun i H2 x H3 hi h2 y => ?_
  obtain ⟨rfl, rfl⟩ := y
  refine ⟨.same, .int (lo + i * c), ?_, fun O2 _ _ => .int _⟩
  simp [rngq, hi]
theorem s_walk {tg e : Expr} {me : Env → Out D} (he : PE X e (RdZ X.K tb me)) : PI X tg e (RdI X.K tb fun r => (me r).bnd fun x r => .lift (iteq x.frz) r) := by
  refine ⟨fun pins s σ H R I ⟨G, r, fp, ds, r', E, q, k⟩ => ?_⟩
  obtain ⟨x, r1, e1, q1⟩ := bnd_ok.mp q
  obtain ⟨e3, e4⟩ := lift_ok.mp q1
  subst e4
  cases x with
  | str x =>
    simp only [D.frz, iteq, Option.ite_none_right_eq_some, Option.some.injEq] at e3
    obtain ⟨hz, rfl⟩ := e3
    exact (pi_str he).run pins s σ H R I ⟨G, r, fp, _, _, E, e1, fun v H1 fp1 E1 z1 P1 => ⟨_, z1.str_inv, k _ H1 fp1 E1 P1 (by rw [List.length_map]; exact hz) mkItS⟩⟩
  | tup x =>
    simp only [D.frz, iteq, Option.some.injEq] at e3
    subst e3
    refine (pi_tup he).run pins s σ H R I ⟨G, r, fp, _, _, E, e1, fun v H1 fp1 E1 z1 P1 => ?_⟩
    cases z1 with
    | tup n h z rr => exact ⟨_, rfl, ⟨_, SqT.of h⟩, k _ H1 fp1 E1 P1 z (mkItT n h rr)⟩
  | lst o x =>
    simp only [D.frz, iteq, Option.some.injEq] at e3
    subst e3
    refine (pi_list he).run pins s σ H R I ⟨G, r, fp, _, _, E, e1, fun v H1 fp1 E1 z1 P1 => ?_⟩
    cases z1 with
    | lst n h z rr => exact ⟨_, rfl, ⟨_, SqL.of h⟩, k _ H1 fp1 E1 P1 z (mkItL n h rr)⟩
  | _ => simp only [D.frz, iteq, reduceCtorEq] at e3
theorem small_p {i : Int} (h : small i = true) : -(2 ^ 40) < i ∧ i < 2 ^ 40 := by
  unfold small at h
  simp only [Bool.and_eq_true, decide_eq_true_eq] at h
  exact h
theorem rngq_len {lo c : Int} {n : Nat} : (rngq lo c n).length = n := by simp [rngq]
theorem rng2q_ok {lo hi : Int} {ds : List D} (h : rng2q lo hi = some ds) : (-(2 ^ 62) ≤ lo ∧ lo < 2 ^ 62 ∧ -(2 ^ 62) ≤ hi ∧ hi < 2 ^ 62) ∧ ds = rngq lo 1 (hi - lo).toNat ∧ (hi - lo).toNat ≤ SZ := by
  unfold rng2q at h
  split at h
  · rename_i q
    simp only [Bool.and_eq_true, decide_eq_true_eq] at q
    obtain ⟨⟨h1, h2⟩, h3⟩ := q
    have a := small_p h1
    have b := small_p h2
    cases h
    exact ⟨⟨by omega, by omega, by omega, by omega⟩, rfl, h3⟩
  · cases h
theorem rng3q_ok {lo hi c : Int} {ds : List D} (h : rng3q lo hi c = some ds) : (-(2 ^ 62) ≤ lo ∧ lo < 2 ^ 62 ∧ -(2 ^ 62) ≤ hi ∧ hi < 2 ^ 62) ∧ c = -1 ∧ ds = rngq lo (-1) (lo - hi).toNat ∧ (lo - hi).toNat ≤ SZ := by
  unfold rng3q at h
  split at h
  · rename_i q
    simp only [Bool.and_eq_true, decide_eq_true_eq] at q
    obtain ⟨⟨⟨h1, h2⟩, h4⟩, h3⟩ := q
    have a := small_p h1
    have b := small_p h2
    cases h
    exact ⟨⟨by omega, by omega, by omega, by omega⟩, h4, rfl, h3⟩
  · cases h
theorem asInt_ok {x : D} {i : Int} (h : asInt x = some i) : x = .int i := by cases x <;> simp only [asInt, reduceCtorEq, Option.some.injEq] at h; rw [h]
theorem ro_int {O : Addr → Prop} {i : Int} {v : V} {f : List Addr} (ro : RO K H O (.int i) v f) : v = .int i := by
  obtain ⟨z, _⟩ := ro.zof rfl
  exact z.int_inv
theorem s_rng1 {tg a : Expr} {p pos : Pos} {ma : Env → Out D} (hg : Gl X "range") (hm : X.mg "range" = none) (hs : notStar a = true) (ha : PE X a (RdO X.K tb ma)) :
    PI X tg (.Call (.Name "range" p) [a] [] pos) (RdI X.K tb fun r => (ma r).bnd fun x r => .lift ((asInt x).bind fun n => rng2q 0 n) r) := by
  refine mkPI (pi_range1 hg hm (pa_cons ha pa_nil (starE [] X.env hs)) (starE [] X.env hs)) fun σ H R ⟨G, r, fp, ds, r', E, q, k⟩ => ?_
  obtain ⟨x, r1, e1, q1⟩ := bnd_ok.mp q
  obtain ⟨e3, rfl⟩ := lift_ok.mp q1
  obtain ⟨n, e4, e5⟩ := Option.bind_eq_some_iff.mp e3
  obtain ⟨⟨_, _, h1, h2⟩, rfl, hz⟩ := rng2q_ok e5
  refine ⟨G, r, fp, x, _, E, e1, fun v H1 fp1 f E1 hG ro P1 nw => ⟨n, ?_, h1, h2, ?_⟩⟩
  · rw [asInt_ok e4] at ro; rw [ro_int ro]
  · have e : n.toNat = (n - 0).toNat := by simp
    rw [e]
    exact k _ H1 fp1 E1.ofNil' P1 (by rw [rngq_len]; exact hz) mkItR
theorem s_rng2 {tg a b : Expr} {p pos : Pos} {ma mb : Env → Out D} (hg : Gl X "range") (hm : X.mg "range" = none) (hs : notStar a = true) (hs2 : notStar b = true) (ha : PE X a (RdO X.K tb ma)) (hb : PE X b (RdO X.K tb mb)) :
    PI X tg (.Call (.Name "range" p) [a, b] [] pos) (RdI X.K tb fun r => (ma r).bnd fun x r => (mb r).bnd fun y r => .lift ((asInt x).bind fun l => (asInt y).bind fun h => rng2q l h) r) := by
  refine mkPI (pi_range2 hg hm (pa_cons ha (pa_cons hb pa_nil (starE [] X.env hs2)) (starE [b] X.env hs)) (by rw [starE [b] X.env hs, starE [] X.env hs2]; rfl) (starE [] X.env hs2)) fun σ H R ⟨G, r, fp, ds, r', E, q, k⟩ => ?_
  obtain ⟨x, r1, e1, q1⟩ := bnd_ok.mp q
  obtain ⟨y, r2, e2, q2⟩ := bnd_ok.mp q1
  obtain ⟨e3, rfl⟩ := lift_ok.mp q2
  obtain ⟨l, e4, e5⟩ := Option.bind_eq_some_iff.mp e3
  obtain ⟨h, e6, e7⟩ := Option.bind_eq_some_iff.mp e5
  obtain ⟨hh, rfl, hz⟩ := rng2q_ok e7
  refine ⟨G, r, fp, x, _, E, e1, fun v H1 fp1 f E1 hG ro P1 nw => ⟨G, r1, fp1, y, _, E1.ofNil', e2, fun v2 H2 fp2 f2 E2 hG2 ro2 P2 nw2 => ⟨l, h, ?_, hh, ?_⟩⟩⟩
  · rw [asInt_ok e4] at ro; rw [asInt_ok e6] at ro2; rw [ro_int ro, ro_int ro2]
  · exact k _ H2 fp2 E2.ofNil' (P1.trans P2) (by rw [rngq_len]; exact hz) mkItR
theorem s_rng3 {tg a b c : Expr} {p pos : Pos} {ma mb mc : Env → Out D} (hg : Gl X "range") (hm : X.mg "range" = none) (hs : notStar a = true) (hs2 : notStar b = true) (hs3 : notStar c = true) (ha : PE X a (RdO X.K tb ma)) (hb : PE X b (RdO X.K tb mb)) (hc : PE X c (RdO X.K tb mc)) :
    PI X tg (.Call (.Name "range" p) [a, b, c] [] pos) (RdI X.K tb fun r => (ma r).bnd fun x r => (mb r).bnd fun y r => (mc r).bnd fun z r => .lift ((asInt x).bind fun l => (asInt y).bind fun h => (asInt z).bind fun s => rng3q l h s) r) := by
  refine mkPI (pi_range3 hg hm (pa_cons ha (pa_cons hb (pa_cons hc pa_nil (starE [] X.env hs3)) (starE [c] X.env hs2)) (starE [b, c] X.env hs)) (starE [b, c] X.env hs) (by rw [starE [c] X.env hs2, starE [] X.env hs3]; rfl)) fun σ H R ⟨G, r, fp, ds, r', E, q, k⟩ => ?_
  obtain ⟨x, r1, e1, q1⟩ := bnd_ok.mp q
  obtain ⟨y, r2, e2, q2⟩ := bnd_ok.mp q1
  obtain ⟨z, r3, e8, q3⟩ := bnd_ok.mp q2
  obtain ⟨e3, rfl⟩ := lift_ok.mp q3
  obtain ⟨l, e4, e5⟩ := Option.bind_eq_some_iff.mp e3
  obtain ⟨h, e6, e7⟩ := Option.bind_eq_some_iff.mp e5
  obtain ⟨s, e9, e10⟩ := Option.bind_eq_some_iff.mp e7
  obtain ⟨hh, rfl, rfl, hz⟩ := rng3q_ok e10
  refine ⟨G, r, fp, x, _, E, e1, fun v H1 fp1 f E1 hG ro P1 nw => ⟨G, r1, fp1, y, _, E1.ofNil', e2, fun v2 H2 fp2 f2 E2 hG2 ro2 P2 nw2 => ⟨G, r2, fp2, z, _, E2.ofNil', e8, fun v3 H3 fp3 f3 E3 hG3 ro3 P3 nw3 => ⟨l, h, -1, (l - h).toNat, ?_, RgC.neg hh.1 hh.2.1 hh.2.2.1 hh.2.2.2, ?_⟩⟩⟩⟩
  · rw [asInt_ok e4] at ro; rw [asInt_ok e6] at ro2; rw [asInt_ok e9] at ro3; rw [ro_int ro, ro_int ro2, ro_int ro3]
  · exact k _ H3 fp3 E3.ofNil' ((P1.trans P2).trans P3) (by rw [rngq_len]; exact hz) mkItC
/-! ### pairs -/
theorem pair_rz {H2 H3 : Hp} {O2 : Addr → Prop} {T : Addr} {x y : V} {d e : D} (hn : ∀ a, H2 a = none → ¬ O2 a) (hT : H2 T = none) (e3 : H3 = upd H2 T (.tup [x, y])) (rx : RZ K H2 O2 d x) (ry : RZ K H2 O2 e y) : RZ K H3 O2 (.tup [d, e]) (.ref T) := by
  subst e3
  exact .tup (hn _ hT) upd_same (by show 2 ≤ SZ; decide) (.cons (rx.keep (keep_new hT)) (.cons (ry.keep (keep_new hT)) .nil))
theorem enumq_len : ∀ (ds : List D) (n : Nat), (enumq n ds).length = ds.length
  | [], _ => rfl
  | _ :: ds, n => congrArg (· + 1) (enumq_len ds (n + 1))
theorem enumq_get : ∀ {ds : List D} {n i : Nat} {d : D}, ds[i]? = some d → (enumq n ds)[i]? = some (.tup [.int ((n + i : Nat) : Int), d])
  | [], _, _, _, h => by simp at h
  | x :: ds, n, 0, d, h => by
    have : x = d := by simpa using h
    subst this
    simp [enumq]
  | x :: ds, n, i + 1, d, h => by
    have h' : ds[i]? = some d := by simpa using h
    have := enumq_get (n := n + 1) h'
    simp only [enumq, List.getElem?_cons_succ]
    rw [this, show n + 1 + i = n + (i + 1) by omega]
theorem zipq_len : ∀ (ds es : List D), (zipq ds es).length = min ds.length es.length
  | [], _ => by simp [zipq]
  | _ :: _, [] => by simp [zipq]
  | _ :: ds, _ :: es => by simp [zipq, zipq_len ds es]
theorem zipq_get : ∀ {ds es : List D} {i : Nat} {d e : D}, ds[i]? = some d → es[i]? = some e → (zipq ds es)[i]? = some (.tup [d, e])
  | [], _, _, _, _, h, _ => by simp at h
  | _ :: _, [], _, _, _, _, h => by simp at h
  | x :: ds, y :: es, 0, d, e, h, h2 => by
    have : x = d := by simpa using h
    have : y = e := by simpa using h2
    subst_vars
    simp [zipq]
  | x :: ds, y :: es, i + 1, d, e, h, h2 => by
    simp only [zipq, List.getElem?_cons_succ] at h h2 ⊢
    exact zipq_get h h2
theorem mkItE {H : Hp} {O : Addr → Prop} {ds : List D} {a : Addr} {vs : List V} (n : ¬ O a) (h : H a = some (.lst vs)) (r : RZs K H O ds vs) : ItOk K (Ite K a) H O (enumq 0 ds) := by
  refine ⟨fun H2 => H2 a = some (.lst vs) ∧ ∃ O1, Keep H H2 O O1, ⟨h, O, keep_self fun _ z => z⟩, fun H2 O2 kp => ⟨(kp.obj a _ h n (fun _ q => nomatch q)).1, O2, kp⟩, ?_⟩
  rw [enumq_len, r.len]
  refine walk_enum.mono (fun H2 h2 => SqL.of h2.1) fun i H2 x H3 hi h2 y => ?_
  obtain ⟨T, u, w, rfl, hT, e3, e4, e5⟩ := y
  obtain ⟨d, hd, rd⟩ := r.getV e5
  cases e4
  refine ⟨by rw [e3]; exact .tup hT, _, enumq_get hd, fun O2 kp hn => ?_⟩
  refine pair_rz hn hT e3 ?_ (rd.keep kp)
  rw [Nat.zero_add]
  exact .int _
theorem mkItET {H : Hp} {O : Addr → Prop} {ds : List D} {a : Addr} {vs : List V} (n : ¬ O a) (h : H a = some (.tup vs)) (r : RZs K H O ds vs) : ItOk K (IteT K a) H O (enumq 0 ds) := by
  refine ⟨fun H2 => H2 a = some (.tup vs) ∧ ∃ O1, Keep H H2 O O1, ⟨h, O, keep_self fun _ z => z⟩, fun H2 O2 kp => ⟨(kp.obj a _ h n (fun _ q => nomatch q)).1, O2, kp⟩, ?_⟩
  rw [enumq_len, r.len]
  refine walk_enumT.mono (fun H2 h2 => SqT.of h2.1) fun i H2 x H3 hi h2 y => ?_
  obtain ⟨T, u, w, rfl, hT, e3, e4, e5⟩ := y
  obtain ⟨d, hd, rd⟩ := r.getV e5
  cases e4
  refine ⟨by rw [e3]; exact .tup hT, _, enumq_get hd, fun O2 kp hn => ?_⟩
  refine pair_rz hn hT e3 ?_ (rd.keep kp)
  rw [Nat.zero_add]
  exact .int _
theorem mkItZ {H : Hp} {O : Addr → Prop} {ds es : List D} {a b : Addr} {vs us : List V} (n : ¬ O a) (h : H a = some (.lst vs)) (r : RZs K H O ds vs) (n2 : ¬ O b) (h2 : H b = some (.lst us)) (r2 : RZs K H O es us) : ItOk K (Itz K a b) H O (zipq ds es) := by
  refine ⟨fun H2 => H2 a = some (.lst vs) ∧ H2 b = some (.lst us), ⟨h, h2⟩, fun H2 O2 kp => ⟨(kp.obj a _ h n (fun _ q => nomatch q)).1, (kp.obj b _ h2 n2 (fun _ q => nomatch q)).1⟩, ?_⟩
  rw [zipq_len, r.len, r2.len]
  refine (walk_zip rfl).mono (fun H2 h2 => ⟨SqL.of h2.1, SqL.of h2.2⟩) fun i H2 x H3 hi h2 y => ?_
  obtain ⟨T, u, w, rfl, hT, e3, e4, e5⟩ := y
  obtain ⟨d, hd, rd⟩ := r.getV e4
  obtain ⟨d2, hd2, rd2⟩ := r2.getV e5
  exact ⟨by rw [e3]; exact .tup hT, _, zipq_get hd hd2, fun O2 kp hn => pair_rz hn hT e3 (rd.keep kp) (rd2.keep kp)⟩
theorem mkItZT {H : Hp} {O : Addr → Prop} {ds es : List D} {a b : Addr} {vs us : List V} (n : ¬ O a) (h : H a = some (.tup vs)) (r : RZs K H O ds vs) (n2 : ¬ O b) (h2 : H b = some (.tup us)) (r2 : RZs K H O es us) : ItOk K (_root_.RZ.ItzT K a b) H O (zipq ds es) := by
  refine ⟨fun H2 => H2 a = some (.tup vs) ∧ H2 b = some (.tup us), ⟨h, h2⟩, fun H2 O2 kp => ⟨(kp.obj a _ h n (fun _ q => nomatch q)).1, (kp.obj b _ h2 n2 (fun _ q => nomatch q)).1⟩, ?_⟩
  rw [zipq_len, r.len, r2.len]
  refine (walk_zipT rfl).mono (fun H2 h2 => ⟨SqT.of h2.1, SqT.of h2.2⟩) fun i H2 x H3 hi h2 y => ?_
  obtain ⟨T, u, w, rfl, hT, e3, e4, e5⟩ := y
  obtain ⟨d, hd, rd⟩ := r.getV e4
  obtain ⟨d2, hd2, rd2⟩ := r2.getV e5
  exact ⟨by rw [e3]; exact .tup hT, _, zipq_get hd hd2, fun O2 kp hn => pair_rz hn hT e3 (rd.keep kp) (rd2.keep kp)⟩
theorem s_enm {elts : List Expr} {kk : Nat} {tpos : Pos} {a : Expr} {p pos : Pos} {ma : Env → Out D} (hg : Gl X "enumerate") (hm : X.mg "enumerate" = none) (hs : notStar a = true) (ha : PE X a (RdZ X.K tb ma)) :
    PI X (.Tuple elts kk tpos) (.Call (.Name "enumerate" p) [a] [] pos) (RdI X.K tb fun r => (ma r).bnd fun x r => .lift ((itemsq x).map (enumq 0)) r) := by
  refine mkPI (pi_enumA hg hm (pa_cons ha pa_nil (starE [] X.env hs)) (starE [] X.env hs)) fun σ H R ⟨G, r, fp, ds, r', E, q, k⟩ => ?_
  obtain ⟨x, r1, e1, q1⟩ := bnd_ok.mp q
  obtain ⟨e3, e4⟩ := lift_ok.mp q1
  subst e4
  cases x with
  | tup x =>
    simp only [itemsq, Option.map_some, Option.some.injEq] at e3
    subst e3
    refine ⟨G, r, fp, _, _, E, e1, fun v H1 fp1 E1 z1 P1 => ?_⟩
    cases z1 with
    | tup n h z rr => exact ⟨_, _, rfl, .inr ⟨SqT.of h, k _ H1 fp1 E1 P1 (by rw [enumq_len]; exact z) (mkItET n h rr)⟩⟩
  | lst o x =>
    cases o with
    | true => simp only [itemsq, Option.map_none, reduceCtorEq] at e3
    | false =>
      simp only [itemsq, Option.map_some, Option.some.injEq] at e3
      subst e3
      refine ⟨G, r, fp, _, _, E, e1, fun v H1 fp1 E1 z1 P1 => ?_⟩
      cases z1 with
      | lst n h z rr => exact ⟨_, _, rfl, .inl ⟨SqL.of h, k _ H1 fp1 E1 P1 (by rw [enumq_len]; exact z) (mkItE n h rr)⟩⟩
  | _ => simp only [itemsq, Option.map_none, reduceCtorEq] at e3
theorem s_zip {elts : List Expr} {kk : Nat} {tpos : Pos} {a b : Expr} {p pos : Pos} {ma mb : Env → Out D} (hg : Gl X "zip") (hm : X.mg "zip" = none) (hs : notStar a = true) (hs2 : notStar b = true) (ha : PE X a (RdZ X.K tb ma)) (hb : PE X b (RdZ X.K tb mb)) :
    PI X (.Tuple elts kk tpos) (.Call (.Name "zip" p) [a, b] [] pos) (RdI X.K tb fun r => (ma r).bnd fun x r => (mb r).bnd fun y r => .lift ((itemsp x y).map fun p => zipq p.1 p.2) r) := by
  refine mkPI (_root_.RZ.pi_zipA hg hm (pa_cons ha (pa_cons hb pa_nil (starE [] X.env hs2)) (starE [b] X.env hs)) (starE [b] X.env hs) (by rw [starE [] X.env hs2]; rfl)) fun σ H R ⟨G, r, fp, ds, r', E, q, k⟩ => ?_
  obtain ⟨x, r1, e1, q1⟩ := bnd_ok.mp q
  obtain ⟨y, r2, e2, q2⟩ := bnd_ok.mp q1
  obtain ⟨e3, e4⟩ := lift_ok.mp q2
  subst e4
  unfold itemsp at e3
  split at e3
  · simp only [Option.map_some, Option.some.injEq] at e3
    subst e3
    refine ⟨G, r, fp, _, _, E, e1, fun v H1 fp1 E1 z1 P1 => ⟨G, r1, fp1, _, _, E1, e2, fun v2 H2 fp2 E2 z2 P2 => ?_⟩⟩
    have z1 := z1.keep P2.kp
    cases z1 with
    | tup n h z rr =>
      cases z2 with
      | tup n2 h2 zz2 rr2 => exact ⟨_, _, _, _, rfl, .inr ⟨SqT.of h, SqT.of h2, k _ H2 fp2 E2 (P1.trans P2) (by rw [zipq_len]; omega) (mkItZT n h rr n2 h2 rr2)⟩⟩
  · simp only [Option.map_some, Option.some.injEq] at e3
    subst e3
    refine ⟨G, r, fp, _, _, E, e1, fun v H1 fp1 E1 z1 P1 => ⟨G, r1, fp1, _, _, E1, e2, fun v2 H2 fp2 E2 z2 P2 => ?_⟩⟩
    have z1 := z1.keep P2.kp
    cases z1 with
    | lst n h z rr =>
      cases z2 with
      | lst n2 h2 zz2 rr2 => exact ⟨_, _, _, _, rfl, .inl ⟨SqL.of h, SqL.of h2, k _ H2 fp2 E2 (P1.trans P2) (by rw [zipq_len]; omega) (mkItZ n h rr n2 h2 rr2)⟩⟩
  · simp only [Option.map_none, reduceCtorEq] at e3
end
end Sf
end
section
set_option Elab.async false
set_option maxRecDepth 100000
set_option linter.all false
/-! SfComp: targets, comprehensions. -/
namespace Sf
open PySem PySem.Spec PyProof.Rows L2

section
variable {X : Cx} {K : PySem.W.Frag} {tb : List Addr} {H H' : Hp} {G : Addr → Prop} {r r' : Env} {σ : L2.St} {fp fp' : Nat → List Addr}
/-! ### targets -/
def RdG (K : PySem.W.Frag) (tb : List Addr) (tg : T) : TG := fun v σ H Q => ∃ G r fp d r', EnvR K tb H G r σ fp ∧ RZ K H (Own G fp) d v ∧ bindT r tg d = some r' ∧
  ∀ σ' fp', EnvR K tb H G r' σ' fp' → Pres H fp H fp' → (∀ j, j ∉ tg.slots → σ'[j]? = σ[j]?) → σ'.length = σ.length → Q σ' H
def RdGs (K : PySem.W.Frag) (tb : List Addr) (is : List Nat) : TGs := fun vs σ H Q => ∃ G r fp ds r', EnvR K tb H G r σ fp ∧ RZs K H (Own G fp) ds vs ∧ putsE r is ds = some r' ∧
  ∀ σ' fp', EnvR K tb H G r' σ' fp' → Pres H fp H fp' → (∀ j, j ∉ is → σ'[j]? = σ[j]?) → σ'.length = σ.length → Q σ' H
theorem EnvR.putZ {d : D} {v : V} {i : Nat} (e : EnvR K tb H G r σ fp) (hi : i < r.length) (hd : RZ K H (Own G fp) d v) : EnvR K tb H G (putE r i d) (σ.set i (some v)) (setF fp i []) :=
  e.toNil.put hi (fun a ha => by simp at ha) (.z (hd.keep (keep_self fun a => own_nil)))
theorem g_name {i : Nat} {x : Str} {pos : Pos} (hN : X.N.Nodup) (hi : X.N[i]? = some x) (hx : Loc X.env.scope x) (hf : X.fn x = true ∨ X.env.scope.names.lookup x = some .local) : PG X (.Name x pos) (RdG X.K tb (.nm i)) := by
  refine ⟨fun pins s σ H v u Q I rv ⟨G, r, fp, d, r', E, z, q, k⟩ => (pg_name hN hi hx hf).run pins s σ H v u Q I rv ?_⟩
  have hl : i < r.length := by
    rw [E.len, I.len]
    exact (List.getElem?_eq_some_iff.mp hi).1
  have q' : some (putE r i d) = some r' := q
  cases q'
  exact k _ _ (E.putZ hl z) pres_less (fun j hj => List.getElem?_set_ne (fun e => hj (by simp [T.slots, e]))) (by simp)
theorem gs_nil : PGs X [] (RdGs X.K tb []) := by
  refine ⟨fun pins s σ H vs us Q I rv ⟨G, r, fp, ds, r', E, z, q, k⟩ => pgs_nil.run pins s σ H vs us Q I rv ?_⟩
  cases z with
  | nil =>
    cases q
    exact ⟨rfl, k σ fp E Pres.refl (fun _ _ => rfl) rfl⟩
  | cons a b => cases q
theorem gs_cons {x : Str} {pos : Pos} {i : Nat} {es : List Expr} {is : List Nat} (h1 : PG X (.Name x pos) (RdG X.K tb (.nm i))) (h2 : PGs X es (RdGs X.K tb is)) : PGs X (.Name x pos :: es) (RdGs X.K tb (i :: is)) := by
  refine ⟨fun pins s σ H vs us Q I rv ⟨G, r, fp, ds, r', E, z, q, k⟩ => (pgs_cons h1 h2).run pins s σ H vs us Q I rv ?_⟩
  cases z with
  | nil => cases q
  | @cons d v ds vs a b =>
    have q' : putsE (putE r i d) is ds = some r' := q
    refine ⟨_, _, rfl, G, r, fp, d, _, E, a, rfl, fun σ1 fp1 E1 P1 hj1 hl1 => ⟨G, _, fp1, ds, r', E1, b.keep P1.kp, q', fun σ2 fp2 E2 P2 hj2 hl2 => k σ2 fp2 E2 (P1.trans P2) (fun j hj => ?_) (hl2.trans hl1)⟩⟩
    have h3 : j ∉ is := fun m => hj (List.mem_cons_of_mem _ m)
    have h4 : j ∉ T.slots (.nm i) := fun m => hj (by simp [T.slots] at m; rw [m]; exact List.mem_cons_self)
    rw [hj2 j h3, hj1 j h4]
def isName : Expr → Bool
  | .Name _ _ => true
  | _ => false
theorem ae_names (env : PySem.Env) : ∀ {es : List Expr}, es.all isName = true → (assignEach es env).length = es.length ∧ (assignEach es env).findIdx? (·.1) = none
  | [], _ => ⟨rfl, rfl⟩
  | e :: es, h => by
    simp only [List.all_cons, Bool.and_eq_true] at h
    obtain ⟨h1, h2⟩ := ae_names env (es := es) h.2
    cases e <;> first
      | (have q := h.1; cases q; done)
      | (refine ⟨congrArg (· + 1) h1, ?_⟩; show List.findIdx? _ ((false, _) :: assignEach es env) = none; rw [List.findIdx?_cons]; simp only [Bool.false_eq_true, if_false]; rw [h2]; rfl)
theorem putsE_len : ∀ {is : List Nat} {ds : List D} {r r' : Env}, putsE r is ds = some r' → is.length = ds.length
  | [], [], _, _, _ => rfl
  | [], _ :: _, _, _, h => by cases h
  | _ :: _, [], _, _, h => by cases h
  | _ :: is, _ :: ds, r, r', h => congrArg (· + 1) (putsE_len (is := is) (ds := ds) h)
theorem g_tup {es : List Expr} {kk : Nat} {pos : Pos} {is : List Nat} (hc : X.calm = true) (hn : es.all isName = true) (hl : es.length = is.length) (h : PGs X es (RdGs X.K tb is)) : PG X (.Tuple es kk pos) (RdG X.K tb (.tp is)) := by
  obtain ⟨h1, h2⟩ := ae_names X.env hn
  refine ⟨fun pins s σ H v u Q I rv ⟨G, r, fp, d, r', E, z, q, k⟩ => (pg_tup hc h h1 h2).run pins s σ H v u Q I rv ?_⟩
  cases d with
  | tup ds =>
    have q' : putsE r is ds = some r' := q
    cases z with
    | tup n e zz rr => exact ⟨_, _, rfl, SqT.of e, by rw [← rr.len, hl, putsE_len q'], G, r, fp, ds, r', E, rr, q', k⟩
  | _ => cases q

/-! ### a block's own names -/
def fpW (fp : Nat → List Addr) (vs : List Nat) : Nat → List Addr := fun j => if j ∈ vs then [] else fp j
theorem wipeE_len (r : Env) : ∀ vs : List Nat, (wipeE r vs).length = r.length
  | [] => rfl
  | v :: vs => by unfold wipeE; rw [List.length_set, wipeE_len r vs]
theorem backE_len (r0 r : Env) : ∀ vs : List Nat, (backE r0 r vs).length = r.length
  | [] => rfl
  | v :: vs => by unfold backE; rw [List.length_set, backE_len r0 r vs]
theorem peek_set {r : Env} {i j : Nat} {o : Option D} (hi : i < r.length) : peek (r.set i o) j = if j = i then o else peek r j := by
  unfold peek
  by_cases h : j = i
  · subst h; rw [if_pos rfl, List.getElem?_set_self hi]; rfl
  · rw [if_neg h, List.getElem?_set_ne (Ne.symm h)]
theorem peek_set_out {r : Env} {i j : Nat} {o : Option D} (hi : ¬ i < r.length) : peek (r.set i o) j = peek r j := by
  rw [List.set_eq_of_length_le (by omega)]
theorem peek_none {r : Env} {i : Nat} (hi : ¬ i < r.length) : peek r i = none := by
  unfold peek
  rw [List.getElem?_eq_none (by omega)]; rfl
theorem peek_wipe {r : Env} {j : Nat} : ∀ {vs : List Nat}, peek (wipeE r vs) j = if j ∈ vs then none else peek r j
  | [] => by simp [wipeE]
  | v :: vs => by
    unfold wipeE
    by_cases hv : v < (wipeE r vs).length
    · rw [peek_set hv, peek_wipe]
      by_cases h : j = v
      · simp [h]
      · simp [h]
    · rw [peek_set_out hv, peek_wipe]
      by_cases h : j = v
      · subst h
        have : peek r j = none := peek_none (by rw [← wipeE_len r vs]; exact hv)
        simp [this]
      · simp [h]
theorem peek_back {r0 r : Env} {j : Nat} (hl : r0.length = r.length) : ∀ {vs : List Nat}, peek (backE r0 r vs) j = if j ∈ vs then peek r0 j else peek r j
  | [] => by simp [backE]
  | v :: vs => by
    unfold backE
    by_cases hv : v < (backE r0 r vs).length
    · rw [peek_set hv, peek_back hl]
      by_cases h : j = v
      · subst h; simp [peek]
      · simp [h]
    · rw [peek_set_out hv, peek_back hl]
      by_cases h : j = v
      · subst h
        rw [backE_len] at hv
        have h1 : peek r j = none := peek_none hv
        have h2 : peek r0 j = none := peek_none (by rw [hl]; exact hv)
        simp [h1, h2]
      · simp [h]
theorem EnvR.sub {fp2 : Nat → List Addr} {r2 : Env} {σ2 : L2.St} (e : EnvR K tb H G r σ fp) (hs : ∀ i a, a ∈ fp2 i → a ∈ fp i) (hl : r2.length = σ2.length)
    (hr : ∀ i d, peek r2 i = some d → peek r i = some d ∧ σ2[i]? = σ[i]? ∧ fp2 i = fp i) (he : ∀ i, peek r2 i = none → fp2 i = []) : EnvR K tb H G r2 σ2 fp2 := by
  have kp : Keep H H (Own G fp) (Own G fp2) := keep_self fun a z => z.elim .inl fun ⟨i, q⟩ => .inr ⟨i, hs i a q⟩
  refine ⟨hl, fun i d h => ?_, he, fun i j a hij h1 h2 => e.dis i j a hij (hs i a h1) (hs j a h2), fun i a h => e.out i a (hs i a h), e.gok, e.tab⟩
  obtain ⟨h1, h2, h3⟩ := hr i d h
  obtain ⟨v, h4, h5⟩ := e.rel i d h1
  exact ⟨v, h2.trans h4, by rw [h3]; exact h5.keep kp fun _ _ => rfl⟩
theorem fpW_mem {vs : List Nat} {i : Nat} {a : Addr} (h : a ∈ fpW fp vs i) : i ∉ vs ∧ a ∈ fp i := by
  unfold fpW at h
  by_cases q : i ∈ vs
  · rw [if_pos q] at h; simp at h
  · rw [if_neg q] at h; exact ⟨q, h⟩
theorem EnvR.wipe (e : EnvR K tb H G r σ fp) {σ0 : L2.St} (vs : List Nat) (hσ : ∀ j, j ∉ vs → σ[j]? = σ0[j]?) (hl : σ.length = σ0.length) : EnvR K tb H G (wipeE r vs) (L2.wipe σ0 vs) (fpW fp vs) := by
  refine e.sub (fun i a h => (fpW_mem h).2) (by rw [wipeE_len, wipe_length, e.len, hl]) (fun i d h => ?_) fun i h => ?_
  · rw [peek_wipe] at h
    by_cases q : i ∈ vs
    · rw [if_pos q] at h; cases h
    · rw [if_neg q] at h
      exact ⟨h, by rw [wipe_out q, hσ i q], by unfold fpW; rw [if_neg q]⟩
  · rw [peek_wipe] at h
    unfold fpW
    by_cases q : i ∈ vs
    · rw [if_pos q]
    · rw [if_neg q] at h ⊢; exact e.emp i h
theorem presW {vs : List Nat} : Pres H fp H (fpW fp vs) :=
  ⟨fun a o e n _ => ⟨e, fun i z => n i (fpW_mem z).2⟩, fun _ _ _ e => e, fun _ q e => ⟨q, e⟩⟩
theorem EnvR.back {r0 rI : Env} {vs : List Nat} (e : EnvR K tb H G (wipeE rI vs) (L2.wipe σ vs) fp) (hl : r0.length = rI.length) (h0 : ∀ v ∈ vs, ∀ d, peek r0 v = some d → ∃ u, σ[v]? = some (some u) ∧ RZ K H (Own G fp) d u) : EnvR K tb H G (backE r0 rI vs) σ fp := by
  have hlen : rI.length = σ.length := by
    have := e.len
    rw [wipeE_len, wipe_length] at this
    exact this
  refine ⟨by rw [backE_len]; exact hlen, fun i d h => ?_, fun i h => ?_, e.dis, e.out, e.gok, e.tab⟩
  · rw [peek_back hl] at h
    by_cases q : i ∈ vs
    · rw [if_pos q] at h
      obtain ⟨u, h1, h2⟩ := h0 i q d h
      have h3 : fp i = [] := e.emp i (by rw [peek_wipe, if_pos q])
      exact ⟨u, h1, by rw [h3]; exact .z h2⟩
    · rw [if_neg q] at h
      obtain ⟨v, h1, h2⟩ := e.rel i d (by rw [peek_wipe, if_neg q]; exact h)
      exact ⟨v, by rw [wipe_out q] at h1; exact h1, h2⟩
  · by_cases q : i ∈ vs
    · exact e.emp i (by rw [peek_wipe, if_pos q])
    · rw [peek_back hl, if_neg q] at h
      exact e.emp i (by rw [peek_wipe, if_neg q]; exact h)
/-- what is protected by name is written -/
theorem EnvR.gwrite {Dd : Addr} {o : HO} (e : EnvR K tb H G r σ fp) (hG : G Dd) (ho : ∀ q, o ≠ .tbl q) (hD : ∃ u, H Dd = some u ∧ (∀ x y, u ≠ .frz x y) ∧ ∀ q, u ≠ .tbl q) :
    EnvR K tb (upd H Dd o) G r σ fp ∧ Keep H (upd H Dd o) (Own G fp) (Own G fp) := by
  obtain ⟨u, hu, hnf, hnt⟩ := hD
  have kp : Keep H (upd H Dd o) (Own G fp) (Own G fp) := ⟨fun b w eb n _ => ⟨by rw [upd_ne (fun (z : b = Dd) => n (by rw [z]; exact .inl hG))]; exact eb, n⟩, fun b x y eb => by
    rw [upd_ne]; exact eb
    intro z; subst z
    rw [hu] at eb; cases eb
    exact hnf _ _ rfl⟩
  refine ⟨⟨e.len, fun i d h => ?_, e.emp, e.dis, e.out, fun a h => ?_, fun P hP => ?_⟩, kp⟩
  · obtain ⟨v, h1, h2⟩ := e.rel i d h
    refine ⟨v, h1, h2.keep kp fun a ha => upd_ne fun z => ?_⟩
    subst z
    exact e.out i a ha hG
  · by_cases z : a = Dd
    · subst z; exact ⟨o, upd_same, ho⟩
    · rw [upd_ne z]; exact e.gok a h
  · obtain ⟨ps, ep, tp⟩ := e.tab P hP
    refine ⟨ps, by rw [upd_ne]; exact ep; intro z; subst z; rw [ep] at hu; cases hu; exact hnt _ rfl, tp⟩
theorem pres_gwrite {H0 : Hp} {fp0 : Nat → List Addr} {Dd : Addr} {o : HO} (P : Pres H0 fp0 H fp) (h0 : H0 Dd = none) : Pres H0 fp0 (upd H Dd o) fp :=
  ⟨fun a u e n t => ⟨by rw [upd_ne (ne_of_none e h0)]; exact (P.obj a u e n t).1, (P.obj a u e n t).2⟩, fun a u w e => by rw [upd_ne (ne_of_none e h0)]; exact P.frz a u w e, fun a q e => by rw [upd_ne (ne_of_none e h0)]; exact P.tbl a q e⟩
/-- from the walked value's point to a turn -/
theorem keep_turn {H0 : Hp} {fp0 : Nat → List Addr} {Dd : Addr} (P : Pres H0 fp0 H fp) (h0 : H0 Dd = none) : Keep H0 H (Own G fp0) (Own (fun a => G a ∨ a ∈ [Dd]) fp) :=
  ⟨fun a o e n t => ⟨(P.obj a o e (fun i z => n (.inr ⟨i, z⟩)) t).1, fun z => by
    rcases z with (z | z) | ⟨i, z⟩
    · exact n (.inl z)
    · have : a = Dd := by simpa using z
      subst this
      rw [h0] at e; cases e
    · exact (P.obj a o e (fun i z => n (.inr ⟨i, z⟩)) t).2 i z⟩, P.frz⟩
theorem EnvR.grown (e : EnvR K tb H G r σ fp) {H2 : Hp} (g : Grow H H2) : EnvR K tb H2 G r σ fp ∧ Pres H fp H2 fp ∧ Keep H H2 (Own G fp) (Own G fp) ∧ ∀ a o, H a = some o → H2 a = some o := by
  cases g with
  | same => exact ⟨e, Pres.refl, keep_self fun _ z => z, fun _ _ q => q⟩
  | tup hp => exact ⟨e.new hp, pres_new hp, keep_new hp, fun a o q => by rw [upd_ne (ne_of_none q hp)]; exact q⟩
end
end Sf
end
section
set_option Elab.async false
set_option maxRecDepth 100000
set_option linter.all false
/-! SfComp2: comprehensions. -/
namespace Sf
open PySem PySem.Spec PyProof.Rows L2

section
variable {X : Cx} {K : PySem.W.Frag} {tb : List Addr} {H H' : Hp} {G : Addr → Prop} {r r' : Env} {σ : L2.St} {fp fp' : Nat → List Addr}
theorem s_pts_nil : PTs X [] (RdT X.K tb (evts [])) := by
  refine ⟨fun pins s σ H Q I ⟨G, r, fp, b, r', E, q, k⟩ => pts_nil.run pins s σ H Q I ?_⟩
  have q' : Out.ok true r = Out.ok b r' := q
  cases q'
  exact k H fp E Pres.refl
theorem s_pts_one {c : Expr} {m : Md} (h : PT X c (RdT X.K tb m.t)) : PTs X [c] (RdT X.K tb (evts [m])) := by
  refine ⟨fun pins s σ H Q I ⟨G, r, fp, b, r', E, q, k⟩ => (pts_one h).run pins s σ H Q I ?_⟩
  obtain ⟨b1, r1, e1, q1⟩ := bnd_ok.mp (show (m.t r).bnd (fun b r => if b then evts [] r else .ok false r) = .ok b r' from q)
  refine ⟨G, r, fp, b1, r1, E, e1, fun H1 fp1 E1 P1 => ?_⟩
  cases b1 with
  | true =>
    have q2 : Out.ok true r1 = Out.ok b r' := q1
    cases q2
    exact k H1 fp1 E1 P1
  | false =>
    have q2 : Out.ok false r1 = Out.ok b r' := q1
    cases q2
    exact k H1 fp1 E1 P1
def compF (tg : T) (mt : Env → Out Bool) (me : Env → Out D) : D → Env → Out (Option D) := fun x r => match bindT r tg x with
  | some r => (mt r).bnd fun b r => if b then (me r).bnd fun d r => .ok (some d) r else .ok none r
  | none => .bad
def compR (mi : Env → Out (List D)) (tg : T) (own : List Nat) (mt : Env → Out Bool) (me : Env → Out D) : Env → Out D := fun r => (mi r).bnd fun xs r0 => if ownZ r0 own then
  (compL own (compF tg mt me) xs r0).bnd fun ys r => .ok (.lst true ys) (backE r0 r own) else .bad
theorem wipe_in {σ : L2.St} {i : Nat} : ∀ {vs : List Nat}, i ∈ vs → i < σ.length → (L2.wipe σ vs)[i]? = some none
  | [], h, _ => by simp at h
  | v :: vs, h, hl => by
    unfold L2.wipe
    by_cases q : i = v
    · subst q
      rw [List.getElem?_set_self (by rw [wipe_length]; exact hl)]
    · rw [List.getElem?_set_ne (Ne.symm q)]
      exact wipe_in ((List.mem_cons.mp h).resolve_left q) hl
theorem wipe_ext {a b : L2.St} {vs : List Nat} (h : ∀ j, j ∉ vs → a[j]? = b[j]?) (hl : a.length = b.length) : L2.wipe a vs = L2.wipe b vs := by
  refine List.ext_getElem? fun j => ?_
  by_cases q : j ∈ vs
  · by_cases l : j < a.length
    · rw [wipe_in q l, wipe_in q (by rw [← hl]; exact l)]
    · rw [List.getElem?_eq_none (by rw [wipe_length]; omega), List.getElem?_eq_none (by rw [wipe_length]; omega)]
  · rw [wipe_out q, wipe_out q, h j q]
theorem isZ_own {r : Env} {vs : List Nat} (h : ownZ r vs = true) {v : Nat} (hv : v ∈ vs) {d : D} (hd : peek r v = some d) : d.isZ = true := by
  have := List.all_eq_true.mp h v hv
  unfold peek at hd
  rw [hd] at this
  exact this
/-- the turns of a comprehension -/
def compInv (K : PySem.W.Frag) (tb : List Addr) (G : Addr → Prop) (Dd : Addr) (σ : L2.St) (own : List Nat) (F : D → Env → Out (Option D)) (xs ys : List D) (r0 rE : Env) (H1 : Hp) (fp1 : Nat → List Addr) (i : Nat) (H2 : Hp) : Prop :=
  ∃ rI fpI accd acc ysR, EnvR K tb H2 (fun a => G a ∨ a ∈ [Dd]) (wipeE rI own) (L2.wipe σ own) fpI ∧ rI.length = r0.length ∧ compL own F (xs.drop i) rI = .ok ysR rE ∧ ys = accd ++ ysR ∧ H2 Dd = some (.lst acc) ∧
    RZs K H2 (Own (fun a => G a ∨ a ∈ [Dd]) fpI) accd acc ∧ Pres H1 fp1 H2 fpI ∧ accd.length ≤ i
theorem comp_tLc {mi : Env → Out (List D)} {tg : T} {own : List Nat} {mt : Env → Out Bool} {me : Env → Out D} {H : Hp} {Q : VK} (hsl : ∀ j ∈ tg.slots, j ∈ own) (h : RdO K tb (compR mi tg own mt me) σ H Q) :
    tLc (RdI K tb mi) (RdG K tb tg) (RdT K tb mt) (RdZ K tb me) own σ H Q := by
  obtain ⟨G, r, fp, d, r', E, q, k⟩ := h
  obtain ⟨xs, r0, e1, q1⟩ := bnd_ok.mp (show (mi r).bnd _ = _ from q)
  have hz : ownZ r0 own = true := by
    cases hz : ownZ r0 own with
    | true => rfl
    | false => simp only [hz, Bool.false_eq_true, if_false] at q1; cases q1
  rw [if_pos hz] at q1
  obtain ⟨ys, rE, e2, q2⟩ := bnd_ok.mp q1
  cases q2
  refine ⟨G, r, fp, xs, r0, E, e1, fun J H1 fp1 E1 P1 hlen it => fun Dd hD => ?_⟩
  obtain ⟨GI, g0, gk, w⟩ := it
  have hnG : ¬ G Dd := fun z => by
    obtain ⟨o, ho, _⟩ := E1.gok Dd z
    rw [hD] at ho; cases ho
  have hσl : r0.length = σ.length := E1.len
  refine lc_it w (compInv K tb G Dd σ own (compF tg mt me) xs ys r0 rE H1 fp1) ?_ ?_ ?_ ?_
  · refine ⟨r0, fpW fp1 own, [], [], ys, (E1.newOwn (o := .lst []) hD (fun _ q => nomatch q)).wipe own (fun _ _ => rfl) rfl, rfl, e2, rfl, upd_same, .nil, (pres_new hD).trans presW, Nat.le_refl _⟩
  · rintro i H2 hi ⟨rI, fpI, accd, acc, ysR, E2, hl2, e3, hy, hDa, rz, P2, hai⟩
    exact gk H2 _ (keep_turn P2 hD)
  · rintro i x H2 H3 hi ⟨rI, fpI, accd, acc, ysR, E2, hl2, e3, hy, hDa, rz, P2, hai⟩ yy
    obtain ⟨gr, d0, hd0, hrz⟩ := yy
    have hdrop : xs.drop i = d0 :: xs.drop (i + 1) := by
      obtain ⟨hl, he⟩ := List.getElem?_eq_some_iff.mp hd0
      rw [List.drop_eq_getElem_cons hl, he]
    rw [hdrop] at e3
    obtain ⟨o, r1, f1, q1⟩ := bnd_ok.mp (show (compF tg mt me d0 (wipeE rI own)).bnd _ = _ from e3)
    obtain ⟨ysR', r2, f2, q2⟩ := bnd_ok.mp q1
    cases q2
    unfold compF at f1
    cases hb : bindT (wipeE rI own) tg d0 with
    | none => rw [hb] at f1; cases f1
    | some r1b =>
      rw [hb] at f1
      obtain ⟨b, r1c, f3, f4⟩ := bnd_ok.mp (show (mt r1b).bnd _ = _ from f1)
      obtain ⟨E3, P3, kp3, _⟩ := E2.grown gr
      have hx : RZ K H3 (Own (fun a => G a ∨ a ∈ [Dd]) fpI) d0 x := hrz _ (keep_turn P2 hD) fun a ha => E2.notOwn ha
      refine ⟨_, _, fpI, d0, r1b, E3, hx, hb, fun σ2 fp4 E4 P4 hj hl4 => ⟨?_, ?_⟩⟩
      · refine wipe_ext (fun j hj2 => ?_) (hl4.trans (wipe_length _ _))
        rw [hj j fun z => hj2 (hsl j z), wipe_out hj2]
      have hσ2 : ∀ j, j ∉ own → σ2[j]? = σ[j]? := fun j hj2 => by rw [hj j fun z => hj2 (hsl j z), wipe_out hj2]
      have hσl2 : σ2.length = σ.length := hl4.trans (wipe_length _ _)
      refine ⟨_, r1b, fp4, b, r1c, E4, f3, fun H5 fp5 E5 P5 => ?_⟩
      cases b with
      | true =>
        obtain ⟨dd, r1d, f5, f6⟩ := bnd_ok.mp (show (me r1c).bnd _ = _ from f4)
        cases f6
        refine ⟨_, r1c, fp5, dd, _, E5, f5, fun v H6 fp6 E6 z6 P6 => ?_⟩
        have Pc : Pres H2 fpI H6 fp6 := P3.trans (P4.trans (P5.trans P6))
        have hD6 : H6 Dd = some (.lst acc) := (Pc.obj Dd _ hDa (fun j z => E2.out j Dd z (.inr (by simp))) (fun _ q => nomatch q)).1
        obtain ⟨Ew, kw⟩ := E6.gwrite (Dd := Dd) (o := .lst (acc ++ [v])) (.inr (by simp)) (fun _ q => nomatch q) ⟨_, hD6, (fun _ _ q => nomatch q), (fun _ q => nomatch q)⟩
        refine ⟨acc, hD6, ?_, r1, fpW fp6 own, accd ++ [dd], acc ++ [v], ysR', Ew.wipe own hσ2 hσl2, ?_, f2, ?_, upd_same, ?_, ?_, ?_⟩
        · have := rz.len
          rw [szLine]
          have : (SZ : Nat) = 16777216 := rfl
          omega
        · rw [E6.len, hσl2, hσl]
        · rw [hy]; simp
        · exact ((((rz.keep Pc.kp).append (.cons z6 .nil)).keep kw).keep (presW (H := upd H6 Dd (.lst (acc ++ [v])))).kp)
        · exact (pres_gwrite (P2.trans Pc) hD).trans presW
        · rw [List.length_append]; simp; omega
      | false =>
        have f5 : Out.ok none r1c = Out.ok o r1 := f4
        cases f5
        have Pc : Pres H2 fpI H5 fp5 := P3.trans (P4.trans P5)
        have hD6 : H5 Dd = some (.lst acc) := (Pc.obj Dd _ hDa (fun j z => E2.out j Dd z (.inr (by simp))) (fun _ q => nomatch q)).1
        refine ⟨r1, fpW fp5 own, accd, acc, ysR', E5.wipe own hσ2 hσl2, ?_, f2, ?_, hD6, ?_, ?_, by omega⟩
        · rw [E5.len, hσl2, hσl]
        · rw [hy]; simp
        · exact ((rz.keep Pc.kp).keep (presW (H := H5)).kp)
        · exact (P2.trans Pc).trans presW
  · rintro H2 ⟨rI, fpI, accd, acc, ysR, E2, hl2, e3, hy, hDa, rz, P2, hai⟩
    rw [List.drop_length] at e3
    have e3 : Out.ok [] rI = Out.ok ysR rE := e3
    cases e3
    rw [List.append_nil] at hy
    subst hy
    refine k _ H2 fpI [Dd] (E2.back hl2.symm fun v hv dv hdv => ?_) (fun a ha => ?_) (.lst hDa ?_ rz) (P1.trans P2) fun a ha o ho => ?_
    · obtain ⟨u, h1, h2, _⟩ := E1.z hdv (isZ_own hz hv hdv)
      exact ⟨u, h1, h2.keep (keep_turn P2 hD)⟩
    · have : a = Dd := by simpa using ha
      subst this
      exact hnG
    · omega
    · have : a = Dd := by simpa using ha
      subst this
      exact P1.fresh hD ho
theorem s_comp {elt tgE iter : Expr} {ifs : List Expr} {scope : Scope} {own : List (Str × Nat)} {pos : Pos} {mi : Env → Out (List D)} {tg : T} {mt : Env → Out Bool} {me : Env → Out D} (hc : X.calm = true) (hN : X.N.Nodup)
    (hi : PI X tgE iter (RdI X.K tb mi)) (ok : BlkOk X.N X.env.scope scope own) (hsl : ∀ j ∈ tg.slots, j ∈ own.map (·.2))
    (hg : ∀ (s : Shared) (H : Hp) (C : Addr) (cl : List (Str × Addr)) (fp : List Addr), PG (X.blk s H scope (compEnvC scope cl C X.env) fp) tgE (RdG X.K tb tg))
    (ht : ∀ (s : Shared) (H : Hp) (C : Addr) (cl : List (Str × Addr)) (fp : List Addr), PTs (X.blk s H scope (compEnvC scope cl C X.env) fp) ifs (RdT X.K tb mt))
    (he : ∀ (s : Shared) (H : Hp) (C : Addr) (cl : List (Str × Addr)) (fp : List Addr), PE (X.blk s H scope (compEnvC scope cl C X.env) fp) elt (RdZ X.K tb me)) (hs : ∀ x, foldedSetIterable iter X.env x = pure x) :
    PE X (.ListComp elt [⟨tgE, iter, ifs, 0⟩] scope pos) (RdO X.K tb (compR mi tg (own.map (·.2)) mt me)) :=
  mkPE (pe_lc hc hN hi ok hg ht he hs) fun σ H Q h => comp_tLc hsl h
end
end Sf
end
section
set_option Elab.async false
set_option maxRecDepth 100000
set_option linter.all false
/-! SfSt: statements. -/
namespace Sf
open PySem PySem.Spec PyProof.Rows L2

/-- the slot io holds what it held -/
def Fix (io : Option Nat) (σ σ' : L2.St) : Prop := ∀ s, io = some s → σ'[s]? = σ[s]?
theorem Fix.refl {io : Option Nat} {σ : L2.St} : Fix io σ σ := fun _ _ => rfl
theorem Fix.trans {io : Option Nat} {σ σ1 σ2 : L2.St} (a : Fix io σ σ1) (b : Fix io σ1 σ2) : Fix io σ σ2 := fun s h => (b s h).trans (a s h)
theorem Fix.set {io : Option Nat} {σ : L2.St} {i : Nat} {v : Option V} (h : io ≠ some i) : Fix io σ (σ.set i v) := fun s e => List.getElem?_set_ne fun z => h (by rw [e, z])
section
variable (K : PySem.W.Frag) (tb : List Addr) (io : Option Nat)
def EndR (G : Addr → Prop) (D : Ends) (σ : L2.St) (H : Hp) (fp : Nat → List Addr) : Res → Prop
  | .nx r' => ∀ σ' H' fp', EnvR K tb H' G r' σ' fp' → Pres H fp H' fp' → Fix io σ σ' → D.nx σ' H'
  | .bk r' => ∀ σ' H' fp', EnvR K tb H' G r' σ' fp' → Pres H fp H' fp' → Fix io σ σ' → D.bk σ' H'
  | .ct r' => ∀ σ' H' fp', EnvR K tb H' G r' σ' fp' → Pres H fp H' fp' → Fix io σ σ' → D.ct σ' H'
  | .rt d r' => ∀ v σ' H' fp' f, EnvR K tb H' (fun a => G a ∨ a ∈ f) r' σ' fp' → (∀ a ∈ f, ¬ G a) → RO K H' (Own (fun a => G a ∨ a ∈ f) fp') d v f → Pres H fp H' fp' → (∀ a ∈ f, ∀ o, H a = some o → ∃ i, a ∈ fp i) → Fix io σ σ' → D.rt v H'
  | .exn _ _ _ => False
  | .bad => False
def RdS (m : Env → Res) : TS := fun D σ H => ∃ G r fp, EnvR K tb H G r σ fp ∧ EndR K tb io G D σ H fp (m r)
end
theorem mkPS {X : Cx} {st : Stmt} {t t' : TS} (h : PS X st t) (m : ∀ D σ H, t' D σ H → t D σ H) : PS X st t' := ⟨fun pins s σ H D I q => h.run pins s σ H D I (m D σ H q)⟩
theorem mkPSs {X : Cx} {st : List Stmt} {t t' : TS} (h : PSs X st t) (m : ∀ D σ H, t' D σ H → t D σ H) : PSs X st t' := ⟨fun pins s σ H D I q => h.run pins s σ H D I (m D σ H q)⟩

section
variable {X : Cx} {K : PySem.W.Frag} {tb : List Addr} {io : Option Nat} {H H' : Hp} {G : Addr → Prop} {r r' : Env} {σ : L2.St} {fp fp' : Nat → List Addr}
/-- on from a later point -/
theorem EndR.on {D : Ends} {res : Res} {H1 : Hp} {fp1 : Nat → List Addr} {σ1 : L2.St} (h : EndR K tb io G D σ H fp res) (P : Pres H fp H1 fp1) (f : Fix io σ σ1) : EndR K tb io G D σ1 H1 fp1 res := by
  cases res with
  | nx r => exact fun σ' H' fp' E P' f' => h σ' H' fp' E (P.trans P') (f.trans f')
  | bk r => exact fun σ' H' fp' E P' f' => h σ' H' fp' E (P.trans P') (f.trans f')
  | ct r => exact fun σ' H' fp' E P' f' => h σ' H' fp' E (P.trans P') (f.trans f')
  | rt d r => exact fun v σ' H' fp' ff E hG z P' nw f' => h v σ' H' fp' ff E hG z (P.trans P') (nw_trans P P' (fun a ha => E.gok a (.inr ha)) nw) (f.trans f')
  | exn => exact h
  | bad => exact h
theorem EndR.fin {α : Type} {D : Ends} {o : Out α} {f : α → Env → Res} (h : EndR K tb io G D σ H fp (o.fin f)) : ∃ a r1, o = .ok a r1 ∧ EndR K tb io G D σ H fp (f a r1) := by
  cases o with
  | ok a r1 => exact ⟨a, r1, rfl, h⟩
  | exn => exact False.elim h
  | bad => exact False.elim h
theorem s_pass {pos : Pos} : PS X (.Pass pos) (RdS X.K tb io fun r => .nx r) := mkPS ps_pass fun D σ H ⟨G, r, fp, E, h⟩ => h σ H fp E Pres.refl Fix.refl
theorem s_break {pos : Pos} : PS X (.Break pos) (RdS X.K tb io fun r => .bk r) := mkPS ps_break fun D σ H ⟨G, r, fp, E, h⟩ => h σ H fp E Pres.refl Fix.refl
theorem s_continue {pos : Pos} : PS X (.Continue pos) (RdS X.K tb io fun r => .ct r) := mkPS ps_continue fun D σ H ⟨G, r, fp, E, h⟩ => h σ H fp E Pres.refl Fix.refl
theorem s_retN {pos : Pos} : PS X (.Return none pos) (RdS X.K tb io fun r => .rt .non r) := mkPS ps_retN fun D σ H ⟨G, r, fp, E, h⟩ => h .non σ H fp [] E.toNil (fun a ha => by simp at ha) (.z .non) Pres.refl (fun a ha => by simp at ha) Fix.refl
theorem s_ret {e : Expr} {pos : Pos} {m : Env → Out D} (he : PE X e (RdO X.K tb m)) : PS X (.Return (some e) pos) (RdS X.K tb io fun r => (m r).fin fun d r => .rt d r) := by
  refine mkPS (ps_ret he) fun D σ H ⟨G, r, fp, E, h⟩ => ?_
  obtain ⟨d, r1, e1, h1⟩ := h.fin
  exact ⟨G, r, fp, d, r1, E, e1, fun v H1 fp1 f E1 hG ro P1 nw => h1 v σ H1 fp1 f E1 hG ro P1 nw Fix.refl⟩
theorem s_expr {e : Expr} {pos : Pos} {m : Env → Out D} (hs : swapsWith e none pos.line X.env = pure false) (he : PE X e (RdO X.K tb m)) : PS X (.Expr e pos) (RdS X.K tb io fun r => (m r).fin fun _ r => .nx r) := by
  refine mkPS (ps_expr he hs) fun D σ H ⟨G, r, fp, E, h⟩ => ?_
  obtain ⟨d, r1, e1, h1⟩ := h.fin
  exact ⟨G, r, fp, d, r1, E, e1, fun v H1 fp1 f E1 _ _ P1 _ => h1 σ H1 fp1 E1.ofNil' P1 Fix.refl⟩
theorem s_ifS {c : Expr} {a b : List Stmt} {pos : Pos} {mc : Env → Out Bool} {ma mb : Env → Res} (hc : PT X c (RdT X.K tb mc)) (ha : PSs X a (RdS X.K tb io ma)) (hb : PSs X b (RdS X.K tb io mb)) :
    PS X (.If c a b pos) (RdS X.K tb io fun r => (mc r).fin fun t r => if t then ma r else mb r) := by
  refine mkPS (ps_if hc ha hb) fun D σ H ⟨G, r, fp, E, h⟩ => ?_
  obtain ⟨t, r1, e1, h1⟩ := h.fin
  refine ⟨G, r, fp, t, r1, E, e1, fun H1 fp1 E1 P1 => ?_⟩
  cases t with
  | true => exact ⟨G, r1, fp1, E1, h1.on P1 Fix.refl⟩
  | false => exact ⟨G, r1, fp1, E1, h1.on P1 Fix.refl⟩
theorem ss_nil : PSs X [] (RdS X.K tb io fun r => .nx r) := mkPSs pss_nil fun D σ H ⟨G, r, fp, E, h⟩ => h σ H fp E Pres.refl Fix.refl
theorem ss_cons {st : Stmt} {sts : List Stmt} {m m2 : Env → Res} (h1 : PS X st (RdS X.K tb io m)) (h2 : PSs X sts (RdS X.K tb io m2)) : PSs X (st :: sts) (RdS X.K tb io fun r => match m r with
    | .nx r => m2 r
    | o => o) := by
  refine mkPSs (pss_cons h1 h2) fun D σ H ⟨G, r, fp, E, h⟩ => ⟨G, r, fp, E, ?_⟩
  cases hm : m r with
  | nx r1 => simp only [hm] at h; exact fun σ' H' fp' E' P' f' => ⟨G, r1, fp', E', h.on P' f'⟩
  | bk r1 => simp only [hm] at h; exact h
  | ct r1 => simp only [hm] at h; exact h
  | rt d r1 => simp only [hm] at h; exact h
  | exn => simp only [hm] at h; exact h
  | bad => simp only [hm] at h; exact h

/-! ### stores -/
theorem pres_put {H0 : Hp} {fp0 : Nat → List Addr} {F : List Addr} (P : Pres H0 fp0 H fp) (hs : ∀ i a, a ∈ fp' i → a ∈ fp i ∨ a ∈ F) (nw : ∀ a ∈ F, ∀ o, H0 a = some o → ∃ i, a ∈ fp0 i) : Pres H0 fp0 H fp' :=
  ⟨fun a o e n t => ⟨(P.obj a o e n t).1, fun i z => by
    rcases hs i a z with z | z
    · exact (P.obj a o e n t).2 i z
    · obtain ⟨j, hj⟩ := nw a z o e
      exact n j hj⟩, P.frz, P.tbl⟩
theorem setF_or {i : Nat} {f : List Addr} : ∀ j a, a ∈ setF fp i f j → a ∈ fp j ∨ a ∈ f := fun j a h => (setF_mem h).elim (fun z => .inr z.2) fun z => .inl z.2
theorem asg_go {m : Env → Out D} {i : Nat} {D : Ends} {σ : L2.St} {H : Hp} (hio : io ≠ some i) (hl : i < σ.length) (h : RdS K tb io (fun r => (m r).fin fun d r => .nx (putE r i d)) D σ H) : tAsg (RdO K tb m) (gName i) D σ H := by
  obtain ⟨G, r, fp, E, h⟩ := h
  obtain ⟨d, r1, e1, h1⟩ := h.fin
  exact ⟨G, r, fp, d, r1, E, e1, fun v H1 fp1 f E1 hG ro P1 nw => h1 _ _ _ (E1.put (by rw [E1.len]; exact hl) hG ro) (pres_put P1 setF_or nw) (Fix.set hio)⟩
theorem s_asg {i : Nat} {x : Str} {e : Expr} {pos' pos : Pos} {m : Env → Out D} (hN : X.N.Nodup) (hi : X.N[i]? = some x) (hx : Loc X.env.scope x) (hf : X.fn x = true ∨ X.env.scope.names.lookup x = some .local) (hio : io ≠ some i)
    (hs : swapsWith e (some (.Name x pos')) pos.line X.env = pure false) (he : PE X e (RdO X.K tb m)) : PS X (.Assign [.Name x pos'] e pos) (RdS X.K tb io fun r => (m r).fin fun d r => .nx (putE r i d)) :=
  ⟨fun pins s σ H D I h => (ps_set hN hi hx he hs hf).run pins s σ H D I (asg_go hio (by rw [I.len]; exact (List.getElem?_eq_some_iff.mp hi).1) h)⟩
theorem s_asgT {is : List Nat} {tg e : Expr} {pos : Pos} {m : Env → Out D} (hg : PG X tg (RdG X.K tb (.tp is))) (hio : ∀ i ∈ is, io ≠ some i) (hs : swapsWithSole [tg] e pos.line X.env = pure false) (hw : swappedStores [tg] e X.env = pure none)
    (h1 : (assignEach [tg] X.env).map (·.2) = [assign tg X.env]) (he : PE X e (RdZ X.K tb m)) : PS X (.Assign [tg] e pos) (RdS X.K tb io fun r => (m r).fin fun d r => match bindT r (.tp is) d with
      | some r => .nx r
      | none => .bad) := by
  refine mkPS (ps_asg he hg hs hw h1) fun D σ H ⟨G, r, fp, E, h⟩ => ?_
  obtain ⟨d, r1, e1, h1⟩ := h.fin
  refine ⟨G, r, fp, d, r1, E, e1, fun v H1 fp1 E1 z1 P1 => ?_⟩
  cases hb : bindT r1 (.tp is) d with
  | none => rw [hb] at h1; exact False.elim h1
  | some r2 =>
    rw [hb] at h1
    exact ⟨G, r1, fp1, d, r2, E1, z1, hb, fun σ' fp' E' P' hj hl => h1 σ' H1 fp' E' (P1.trans P') fun s hs => hj s fun z => hio s z hs⟩
/-- several values, each with what it owns -/
inductive ROL (K : PySem.W.Frag) (H : Hp) (O : Addr → Prop) : List D → List V → List (List Addr) → Prop
  | nil : ROL K H O [] [] []
  | cons {d : D} {v : V} {f : List Addr} {ds : List D} {vs : List V} {fs : List (List Addr)} : RO K H O d v f → ROL K H O ds vs fs → ROL K H O (d :: ds) (v :: vs) (f :: fs)
def RdAo (K : PySem.W.Frag) (tb : List Addr) (m : Env → Out (List D)) : TA := fun σ H Q => ∃ G r fp ds r', EnvR K tb H G r σ fp ∧ m r = .ok ds r' ∧ ∀ vs H' fp' fs, EnvR K tb H' (fun a => G a ∨ a ∈ List.flatten fs) r' σ fp' → fs.flatten.Nodup → (∀ a ∈ fs.flatten, ¬ G a) →
  ROL K H' (Own (fun a => G a ∨ a ∈ List.flatten fs) fp') ds vs fs → Pres H fp H' fp' → (∀ a ∈ fs.flatten, ∀ o, H a = some o → ∃ i, a ∈ fp i) → Q vs H'
theorem ao_nil : PA X [] (RdAo X.K tb (evs [])) := by
  refine mkPA pa_nil fun σ H Q ⟨G, r, fp, ds, r', E, q, k⟩ => ?_
  have q' : Out.ok [] r = Out.ok ds r' := q
  cases q'
  exact k [] H fp [] E.toNil .nil (fun a ha => by simp at ha) .nil Pres.refl fun a ha => by simp at ha
theorem ROL.keep {O O' : Addr → Prop} (kp : Keep H H' O O') : ∀ {ds : List D} {vs : List V} {fs : List (List Addr)}, ROL K H O ds vs fs → (∀ a ∈ fs.flatten, H' a = H a) → ROL K H' O' ds vs fs
  | _, _, _, .nil, _ => .nil
  | _, _, _, .cons a b, h => .cons (a.keep kp fun x hx => h x (by simp [hx])) (b.keep kp fun x hx => h x (by
      rw [List.flatten_cons, List.mem_append]; exact .inr hx))
theorem ao_cons {e : Expr} {es : List Expr} {m : Md} {ms : List Md} (hn : notStar e = true) (h : PE X e (RdO X.K tb m.v)) (ht : PA X es (RdAo X.K tb (evs ms))) : PA X (e :: es) (RdAo X.K tb (evs (m :: ms))) := by
  refine mkPA (pa_cons h ht (starE es X.env hn)) fun σ H Q ⟨G, r, fp, ds, r', E, q, k⟩ => ?_
  obtain ⟨x, r1, e1, q1⟩ := bnd_ok.mp (show (m.v r).bnd (fun d r => (evs ms r).bnd fun ds r => .ok (d :: ds) r) = .ok ds r' from q)
  obtain ⟨xs, r2, e2, q2⟩ := bnd_ok.mp q1
  cases q2
  refine ⟨G, r, fp, x, r1, E, e1, fun v H1 fp1 f E1 hG ro P1 nw => ⟨_, r1, fp1, xs, _, E1, e2, fun vs H2 fp2 fs E2 nd hG2 rol P2 nw2 => ?_⟩⟩
  have sub : ∀ a, (G a ∨ a ∈ (f :: fs).flatten) → ((G a ∨ a ∈ f) ∨ a ∈ fs.flatten) := fun a z => by
    rcases z with z | z
    · exact .inl (.inl z)
    · rw [List.flatten_cons, List.mem_append] at z
      exact z.elim (fun z => .inl (.inr z)) .inr
  have sub' : ∀ a, ((G a ∨ a ∈ f) ∨ a ∈ fs.flatten) → (G a ∨ a ∈ (f :: fs).flatten) := fun a z => by
    rw [List.flatten_cons, List.mem_append]
    rcases z with (z | z) | z
    · exact .inl z
    · exact .inr (.inl z)
    · exact .inr (.inr z)
  have kp0 : Keep H2 H2 (Own (fun a => (G a ∨ a ∈ f) ∨ a ∈ fs.flatten) fp2) (Own (fun a => G a ∨ a ∈ (f :: fs).flatten) fp2) := keep_self fun a z => z.elim (fun z => .inl (sub a z)) .inr
  have kp1 : Keep H1 H2 (Own (fun a => G a ∨ a ∈ f) fp1) (Own (fun a => (G a ∨ a ∈ f) ∨ a ∈ fs.flatten) fp2) := ⟨fun a o e n t => ⟨(P2.obj a o e (fun i z => n (.inr ⟨i, z⟩)) t).1, fun z => by
    rcases z with (z | z) | ⟨i, z⟩
    · exact n (.inl z)
    · exact n (.inr (nw2 a z o e))
    · exact (P2.obj a o e (fun i z => n (.inr ⟨i, z⟩)) t).2 i z⟩, P2.frz⟩
  have hf2 : ∀ a ∈ f, H2 a = H1 a := fun a ha => by
    obtain ⟨o, ho, t⟩ := ro.mem a ha
    rw [ho]
    exact (P2.obj a o ho (fun i z => E1.out i a z (.inr ha)) t).1
  refine k (v :: vs) H2 fp2 (f :: fs) (E2.less sub) ?_ (fun a ha => ?_) (.cons ((ro.keep kp1 hf2).keep kp0 fun _ _ => rfl) (rol.keep kp0 fun _ _ => rfl)) (P1.trans P2) fun a ha o ho => ?_
  · rw [List.flatten_cons, List.nodup_append]
    exact ⟨ro.nd, nd, fun a ha b hb e => hG2 b hb (.inr (e ▸ ha))⟩
  · rw [List.flatten_cons, List.mem_append] at ha
    exact ha.elim (hG a) fun z w => hG2 a z (.inl w)
  · rw [List.flatten_cons, List.mem_append] at ha
    exact ha.elim (fun z => nw a z o ho) fun z => nw_trans P1 P2 (fun b hb => E2.gok b (.inr hb)) nw2 a z o ho
def setL : L2.St → List Nat → List V → L2.St
  | σ, i :: is, v :: vs => setL (σ.set i (some v)) is vs
  | σ, _, _ => σ
theorem EnvR.putL : ∀ {is : List Nat} {ds : List D} {vs : List V} {fs : List (List Addr)} {r r' : Env} {σ : L2.St} {fp : Nat → List Addr}, EnvR K tb H (fun a => G a ∨ a ∈ List.flatten fs) r σ fp → fs.flatten.Nodup → (∀ a ∈ fs.flatten, ¬ G a) →
    ROL K H (Own (fun a => G a ∨ a ∈ List.flatten fs) fp) ds vs fs → putsE r is ds = some r' → (∀ i ∈ is, i < r.length) → ∃ fp', EnvR K tb H G r' (setL σ is vs) fp' ∧ ∀ i a, a ∈ fp' i → a ∈ fp i ∨ a ∈ fs.flatten
  | [], ds, vs, fs, r, r', σ, fp, E, nd, hG, rol, q, hl => by
    cases rol with
    | nil =>
      have q' : some r = some r' := q
      cases q'
      exact ⟨fp, E.ofNil', fun _ _ h => .inl h⟩
    | cons a b => cases q
  | i :: is, ds, vs, fs, r, r', σ, fp, E, nd, hG, rol, q, hl => by
   cases rol with
   | nil => cases q
   | @cons d v f ds vs fs ro rol =>
    have q' : putsE (putE r i d) is ds = some r' := q
    rw [List.flatten_cons, List.nodup_append] at nd
    obtain ⟨nd1, nd2, nd3⟩ := nd
    have kp0 : Keep H H (Own (fun a => G a ∨ a ∈ (f :: fs).flatten) fp) (Own (fun a => (G a ∨ a ∈ fs.flatten) ∨ a ∈ f) fp) := keep_self fun a z => z.elim (fun z => .inl (by
      show G a ∨ a ∈ (f :: fs).flatten
      rw [List.flatten_cons, List.mem_append]
      rcases z with (z | z) | z
      · exact .inl z
      · exact .inr (.inr z)
      · exact .inr (.inl z))) .inr
    have E1 : EnvR K tb H (fun a => (G a ∨ a ∈ fs.flatten) ∨ a ∈ f) r σ fp := E.less fun a z => by
      show G a ∨ a ∈ (f :: fs).flatten
      rw [List.flatten_cons, List.mem_append]
      rcases z with (z | z) | z
      · exact .inl z
      · exact .inr (.inr z)
      · exact .inr (.inl z)
    have hGf : ∀ a ∈ f, ¬ (G a ∨ a ∈ fs.flatten) := fun a ha z => z.elim (hG a (by rw [List.flatten_cons, List.mem_append]; exact .inl ha)) fun w => nd3 a ha a w rfl
    have E2 := E1.put (hl i List.mem_cons_self) hGf (ro.keep kp0 fun _ _ => rfl)
    have kp2 : Keep H H (Own (fun a => G a ∨ a ∈ (f :: fs).flatten) fp) (Own (fun a => G a ∨ a ∈ fs.flatten) (setF fp i f)) := keep_self fun a z => by
      rcases z with (z | z) | ⟨j, z⟩
      · exact .inl (.inl z)
      · exact .inl (.inr (by rw [List.flatten_cons, List.mem_append]; exact .inr z))
      · rcases setF_or j a z with z | z
        · exact .inr ⟨j, z⟩
        · exact .inl (.inr (by rw [List.flatten_cons, List.mem_append]; exact .inl z))
    obtain ⟨fp', E3, hs⟩ := EnvR.putL (is := is) E2 nd2 (fun a ha => hG a (by rw [List.flatten_cons, List.mem_append]; exact .inr ha)) (rol.keep kp2 fun _ _ => rfl) q' (fun j hj => by unfold putE; rw [List.length_set]; exact hl j (List.mem_cons_of_mem _ hj))
    refine ⟨fp', E3, fun j a h => ?_⟩
    rw [List.flatten_cons, List.mem_append]
    rcases hs j a h with h | h
    · rcases setF_or j a h with h | h
      · exact .inl h
      · exact .inr (.inl h)
    · exact .inr (.inr h)
theorem Fix.setL {io : Option Nat} : ∀ {is : List Nat} {vs : List V} {σ : L2.St}, (∀ i ∈ is, io ≠ some i) → Fix io σ (Sf.setL σ is vs)
  | [], _, _, _ => Fix.refl
  | _ :: _, [], _, _ => Fix.refl
  | i :: is, v :: vs, σ, h => (Fix.set (h i List.mem_cons_self)).trans (Fix.setL fun j hj => h j (List.mem_cons_of_mem _ hj))
/-- the end of a parallel assignment -/
theorem par_go {m : Env → Out (List D)} {is : List Nat} {Dn : Ends} {σ : L2.St} {H : Hp} {Q : List V → Hp → Prop} (hio : ∀ i ∈ is, io ≠ some i) (hl : ∀ i ∈ is, i < σ.length) (h : RdS K tb io (fun r => (m r).fin fun ds r => match putsE r is ds with
      | some r => .nx r
      | none => .bad) Dn σ H) (hQ : ∀ vs H1, vs.length = is.length → (∀ Hx, (Hx = H1 ∨ ∃ p o, H1 p = none ∧ (∀ q, o ≠ HO.tbl q) ∧ Hx = upd H1 p o) → Dn.nx (setL σ is vs) Hx) → Q vs H1) : RdAo K tb m σ H Q := by
  obtain ⟨G, r, fp, E, h⟩ := h
  obtain ⟨ds, r1, e1, h1⟩ := h.fin
  refine ⟨G, r, fp, ds, r1, E, e1, fun vs H1 fp1 fs E1 nd hG rol P1 nw => ?_⟩
  cases hb : putsE r1 is ds with
  | none => rw [hb] at h1; exact False.elim h1
  | some r2 =>
    rw [hb] at h1
    have hlv : ∀ {ds : List D} {vs : List V} {fs : List (List Addr)} {O : Addr → Prop}, ROL K H1 O ds vs fs → ds.length = vs.length := fun {ds vs fs O} h => by
      induction h with
      | nil => rfl
      | cons a b ih => simp [ih]
    refine hQ vs H1 (by rw [← hlv rol, putsE_len hb]) fun Hx hx => ?_
    obtain ⟨fp', E2, hs⟩ := E1.putL nd hG rol hb (fun i hi => by rw [E1.len]; exact hl i hi)
    have P2 : Pres H fp H1 fp' := pres_put P1 hs nw
    rcases hx with rfl | ⟨p, o, hp, ho, rfl⟩
    · exact h1 _ _ fp' E2 P2 (Fix.setL hio)
    · exact h1 _ _ fp' (E2.new hp) (P2.trans (pres_new hp)) (Fix.setL hio)
end
end Sf
end
section
set_option Elab.async false
set_option maxRecDepth 100000
set_option linter.all false
/-! SfSt2: more statements. -/
namespace Sf
open PySem PySem.Spec PyProof.Rows L2

section
variable {X : Cx} {K : PySem.W.Frag} {tb : List Addr} {io : Option Nat} {H H' : Hp} {G : Addr → Prop} {r r' : Env} {σ : L2.St} {fp fp' : Nat → List Addr}
def parM (m : Env → Out (List D)) (is : List Nat) : Env → Res := fun r => (m r).fin fun ds r => match putsE r is ds with
  | some r => .nx r
  | none => .bad
theorem s_par2 {i j : Nat} {x y : Str} {a b : Expr} {px py pt : Pos} {kt k2 pt2 pos} {m : Env → Out (List D)} (hc : X.calm = true) (hN : X.N.Nodup) (hi : X.N[i]? = some x) (hj : X.N[j]? = some y) (hij : i ≠ j)
    (hx : X.env.scope.names.lookup x = some .local) (hy : X.env.scope.names.lookup y = some .local) (hio : ∀ k ∈ [i, j], io ≠ some k) (ha : PA X [a, b] (RdAo X.K tb m))
    (hw : swappedStores [.Tuple [.Name x px, .Name y py] kt pt] (.Tuple [a, b] k2 pt2) X.env = pure (some [x, y])) :
    PS X (.Assign [.Tuple [.Name x px, .Name y py] kt pt] (.Tuple [a, b] k2 pt2) pos) (RdS X.K tb io (parM m [i, j])) := by
  refine ⟨fun pins s σ H Dn I h => (ps_par hc hN hi hj hij hx hy ha hw).run pins s σ H Dn I ?_⟩
  refine par_go hio (fun k hk => ?_) h fun vs H1 hl hq => ?_
  · rw [I.len]
    simp only [List.mem_cons, List.not_mem_nil, or_false] at hk
    rcases hk with rfl | rfl
    · exact (List.getElem?_eq_some_iff.mp hi).1
    · exact (List.getElem?_eq_some_iff.mp hj).1
  · match vs, hl with
    | [v, w], _ => exact ⟨v, w, rfl, hq H1 (.inl rfl)⟩
theorem s_par3 {i j l : Nat} {x y z : Str} {a b c : Expr} {px py pz pt : Pos} {kt k2 pt2 pos} {m : Env → Out (List D)} (hc : X.calm = true) (hN : X.N.Nodup) (hi : X.N[i]? = some x) (hj : X.N[j]? = some y) (hl : X.N[l]? = some z) (hij : i ≠ j) (hil : i ≠ l) (hjl : j ≠ l)
    (hx : X.env.scope.names.lookup x = some .local) (hy : X.env.scope.names.lookup y = some .local) (hz : X.env.scope.names.lookup z = some .local) (hio : ∀ k ∈ [i, j, l], io ≠ some k) (ha : PA X [a, b, c] (RdAo X.K tb m))
    (hw : swappedStores [.Tuple [.Name x px, .Name y py, .Name z pz] kt pt] (.Tuple [a, b, c] k2 pt2) X.env = pure (some [x, y, z])) :
    PS X (.Assign [.Tuple [.Name x px, .Name y py, .Name z pz] kt pt] (.Tuple [a, b, c] k2 pt2) pos) (RdS X.K tb io (parM m [i, j, l])) := by
  refine ⟨fun pins s σ H Dn I h => (ps_par3 hc hN hi hj hl hij hil hjl hx hy hz ha hw).run pins s σ H Dn I ?_⟩
  refine par_go hio (fun k hk => ?_) h fun vs H1 hl2 hq => ?_
  · rw [I.len]
    simp only [List.mem_cons, List.not_mem_nil, or_false] at hk
    rcases hk with rfl | rfl | rfl
    · exact (List.getElem?_eq_some_iff.mp hi).1
    · exact (List.getElem?_eq_some_iff.mp hj).1
    · exact (List.getElem?_eq_some_iff.mp hl).1
  · match vs, hl2 with
    | [u, v, w], _ => exact ⟨u, v, w, rfl, hq H1 (.inl rfl)⟩
/-- names by their slots -/
def gNames : List Nat → TGs
  | [] => gNil
  | i :: is => gCons (gName i) (gNames is)
theorem gNames_ok : ∀ {is : List Nat} {vs : List V} {σ : L2.St} {H : Hp} {Q : L2.St → Hp → Prop}, vs.length = is.length → Q (setL σ is vs) H → gNames is vs σ H Q
  | [], [], _, _, _, _, q => ⟨rfl, q⟩
  | [], _ :: _, _, _, _, h, _ => by simp at h
  | _ :: _, [], _, _, _, h, _ => by simp at h
  | i :: is, v :: vs, σ, H, Q, h, q => ⟨v, vs, rfl, gNames_ok (by simpa using h) q⟩
theorem s_parT {is : List Nat} {ts es : List Expr} {kt k2 : Nat} {pt pt2 pos : Pos} {m : Env → Out (List D)} (hc : X.calm = true) (hn : ts.all isName = true) (hlen : ts.length = is.length) (hg : PGs X ts (gNames is)) (hl : ∀ i ∈ is, i < X.N.length) (hio : ∀ k ∈ is, io ≠ some k) (hsz : is.length ≤ SZ) (ha : PA X es (RdAo X.K tb m))
    (hw : swappedStores [.Tuple ts kt pt] (.Tuple es k2 pt2) X.env = pure none) :
    PS X (.Assign [.Tuple ts kt pt] (.Tuple es k2 pt2) pos) (RdS X.K tb io (parM m is)) := by
  obtain ⟨h1, h2⟩ := ae_names X.env hn
  refine ⟨fun pins s σ H Dn I h => (ps_asg (pe_tup ha) (pg_tup hc hg h1 h2) rfl hw rfl).run pins s σ H Dn I ?_⟩
  refine par_go hio (fun k hk => by rw [I.len]; exact hl k hk) h fun vs H1 hlv hq => ⟨?_, fun p hp => ?_⟩
  · rw [szLine, hlv]; exact hsz
  · exact ⟨p, vs, rfl, SqT.of upd_same, by rw [hlen, hlv], gNames_ok hlv (hq _ (.inr ⟨p, .tup vs, hp, (fun _ q => nomatch q), rfl⟩))⟩
/-! ### name op= value -/
def rAug (K : PySem.W.Frag) (o : BOp) : TIp := fun x y H Q => ∃ O d1 d2 d, RZ K H O d1 x ∧ RZ K H O d2 y ∧ augop o d1 d2 = some d ∧ ∀ v, (∀ H O, RZ K H O d v) → Q v H
theorem pip_aug : ∀ o : BOp, PIp X (opBack o) (rAug X.K o)
  | .add => by
    intro pins s σ H x y v u Q I rx ry h
    obtain ⟨O, d1, d2, d, r1, r2, e, q⟩ := h
    cases d1 <;> cases d2 <;> simp only [augop, reduceCtorEq] at e
    · cases e
      exact iop_add pins s σ H _ _ v u Q I rx ry ⟨_, _, r1.int_inv, r2.int_inv, q _ fun _ _ => .int _⟩
    · simp only [Option.ite_none_right_eq_some, Option.some.injEq] at e
      obtain ⟨hz, rfl⟩ := e
      refine iop_add_str pins s σ H _ _ v u Q I rx ry ⟨_, _, r1.str_inv, r2.str_inv, by rw [sg_len, sg_len, szLine]; exact hz, ?_⟩
      rw [sg_app]
      exact q _ fun _ _ => .str _
  | .sub => by
    intro pins s σ H x y v u Q I rx ry h
    obtain ⟨O, d1, d2, d, r1, r2, e, q⟩ := h
    cases d1 <;> cases d2 <;> simp only [augop, reduceCtorEq] at e
    cases e
    exact iop_sub pins s σ H _ _ v u Q I rx ry ⟨_, _, r1.int_inv, r2.int_inv, q _ fun _ _ => .int _⟩
  | .mod => by
    intro pins s σ H x y v u Q I rx ry h
    obtain ⟨O, d1, d2, d, r1, r2, e, q⟩ := h
    cases d1 <;> cases d2 <;> simp only [augop, reduceCtorEq] at e
    simp only [Option.ite_none_right_eq_some, Option.some.injEq] at e
    obtain ⟨hz, rfl⟩ := e
    exact iop_mod pins s σ H _ _ v u Q I rx ry ⟨_, _, r1.int_inv, r2.int_inv, hz, q _ fun _ _ => .int _⟩
  | .mul => by
    intro pins s σ H x y v u Q I rx ry h
    obtain ⟨O, d1, d2, d, r1, r2, e, q⟩ := h
    cases d1 <;> cases d2 <;> simp only [augop, reduceCtorEq] at e
  | .fdiv => by
    intro pins s σ H x y v u Q I rx ry h
    obtain ⟨O, d1, d2, d, r1, r2, e, q⟩ := h
    cases d1 <;> cases d2 <;> simp only [augop, reduceCtorEq] at e
  | .pow => by
    intro pins s σ H x y v u Q I rx ry h
    obtain ⟨O, d1, d2, d, r1, r2, e, q⟩ := h
    cases d1 <;> cases d2 <;> simp only [augop, reduceCtorEq] at e
theorem aug_flat {o : BOp} {x y d : D} (h : augop o x y = some d) : x.isZ = true := by
  cases o <;> cases x <;> cases y <;> first | rfl | (simp [augop] at h; done)
theorem s_aug {i : Nat} {x : Str} {e : Expr} {op : Operator} {o : BOp} {pos' pos : Pos} {m : Env → Out D} (hop : opOf op = some o) (hN : X.N.Nodup) (hi : X.N[i]? = some x) (hx : Loc X.env.scope x) (hf : X.fn x = true ∨ X.env.scope.names.lookup x = some .local) (hio : io ≠ some i)
    (he : PE X e (RdZ X.K tb m)) : PS X (.AugAssign (.Name x pos') op e pos) (RdS X.K tb io fun r => match peek r i with
      | some x => (m r).fin fun y r => match augop o x y with
        | some z => .nx (putE r i z)
        | none => .bad
      | none => .bad) := by
  rw [opOf_back hop]
  refine ⟨fun pins s σ H Dn I ⟨G, r, fp, E, h⟩ => (ps_aug hN hi hx he (pip_aug o) hf).run pins s σ H Dn I ?_⟩
  cases hp : peek r i with
  | none => simp only [hp] at h; exact False.elim h
  | some d1 =>
    simp only [hp] at h
    obtain ⟨y, r1, e1, h1⟩ := h.fin
    cases ha : augop o d1 y with
    | none => simp only [ha] at h1; exact False.elim h1
    | some z =>
      simp only [ha] at h1
      obtain ⟨v, hσ, rz, _⟩ := E.z hp (aug_flat ha)
      refine ⟨v, hσ, G, r, fp, y, r1, E, e1, fun w H1 fp1 E1 z1 P1 => ⟨_, d1, y, z, rz.keep P1.kp, z1, ha, fun u ru => ?_⟩⟩
      exact h1 _ H1 _ (E1.putZ (by rw [E1.len, I.len]; exact (List.getElem?_eq_some_iff.mp hi).1) (ru _ _)) (P1.trans pres_less) (Fix.set hio)
/-! ### o[k] = v -/
def rSet (K : PySem.W.Frag) : TSet := fun o i v H Q => rSetL o i v H Q ∨ ∃ a H', o = .ref a ∧ DPut H a i v H' ∧ Q H'
theorem set_any (hu : X.A.units + 1 < cLine) : PSet X (rSet X.K) := by
  intro pins s σ H o i v ov iv u Q I ro ri rv h
  rcases h with h | ⟨a, H', rfl, g, q⟩
  · exact set_list pins s σ H o i v ov iv u Q I ro ri rv h
  · cases ro
    exact d_setItem hu I g ri rv fun s' I' => ⟨H', I', q⟩
theorem EnvR.wdic (E : EnvR K tb H G r σ fp) {i : Nat} {a : Addr} {ks vs ks' vs' : List D} {kvs kvs' : List (List Key × V)} (h : peek r i = some (.dic true ks vs)) (hf : fp i = [a]) (ha : H a = some (.dT kvs)) (hk : ks'.map keyQ = kvs'.map (fun p => some p.1)) (hr : RZs K H (Own G fp) vs' (kvs'.map (·.2))) :
    EnvR K tb (upd H a (.dT kvs')) G (putE r i (.dic true ks' vs')) σ fp ∧ Pres H fp (upd H a (.dT kvs')) fp := by
  have hm : a ∈ fp i := by rw [hf]; simp
  have kp := E.kpw (o := .dT kvs') hm ha (fun _ _ q => nomatch q)
  exact ⟨E.write h hf (fun _ q => nomatch q) fun v hσ ro => by
    cases ro with
    | dic e q u r => exact .dic upd_same hk rfl (hr.keep kp), pres_write hm ⟨_, ha, (fun _ _ q => nomatch q), (fun _ q => nomatch q)⟩⟩
def setM (i : Nat) (me mk : Env → Out D) : Env → Res := fun r => (me r).fin fun d r => (has i r).fin fun _ r => (mk r).fin fun k r => match peek r i, k with
  | some (.lst true xs), .int k => match ixq xs.length k with
    | some j => .nx (putE r i (.lst true (xs.set j d)))
    | none => .bad
  | some (.dic true ks vs), k => if k.keyOk && decide (ks.length < SZ) then .nx (putE r i (.dic true (putq k d ks vs).1 (putq k d ks vs).2)) else .bad
  | _, _ => .bad
theorem s_set {i : Nat} {x : Str} {k e : Expr} {px p pos : Pos} {me mk : Env → Out D} (hu : X.A.units + 1 < cLine) (hp : ∀ a b c p, k ≠ .Slice a b c p) (ho : PE X (.Name x px) (tVar i)) (hk : PE X k (RdZ X.K tb mk)) (he : PE X e (RdZ X.K tb me)) :
    PS X (.Assign [.Subscript (.Name x px) k p] e pos) (RdS X.K tb io (setM i me mk)) := by
  have ha : ∀ v, assign (.Subscript (.Name x px) k p) X.env v = (do
      let ov ← holding [v] (eval (.Name x px) X.env)
      let iv ← holding [v, ov] (eval k X.env)
      standAt p
      holding [v, ov, iv] (setItem ov iv v)
      release [v, ov, iv] []) := by
    intro v
    cases k <;> first | rfl | exact absurd rfl (hp _ _ _ _)
  have hs : swapsWithSole [.Subscript (.Name x px) k p] e pos.line X.env = pure false := by cases e <;> rfl
  refine ⟨fun pins s σ H Dn I ⟨G, r, fp, E, h⟩ => (ps_asg he (pg_sub ho hk (set_any hu) ha) hs rfl rfl).run pins s σ H Dn I ?_⟩
  obtain ⟨d, r1, e1, h1⟩ := h.fin
  obtain ⟨x0, r2, e2, h2⟩ := h1.fin
  obtain ⟨hx0, e5⟩ := has_ok e2
  rw [e5] at h2
  obtain ⟨kd, r3, e3, h3⟩ := h2.fin
  refine ⟨G, r, fp, d, r1, E, e1, fun v H1 fp1 E1 z1 P1 => ?_⟩
  obtain ⟨v0, hσ0, _⟩ := E1.rel i x0 hx0
  refine ⟨v0, hσ0, G, r1, fp1, kd, r3, E1, e3, fun w H2 fp2 E2 z2 P2 => ?_⟩
  have zd := z1.keep P2.kp
  cases hpk : peek r3 i with
  | none => simp only [hpk] at h3; exact False.elim h3
  | some c =>
    simp only [hpk] at h3
    cases c with
    | lst o xs =>
      cases o with
      | false => exact False.elim h3
      | true =>
        cases kd with
        | int kk =>
          cases hj : ixq xs.length kk with
          | none => simp only [hj] at h3; exact False.elim h3
          | some j =>
            simp only [hj] at h3
            obtain ⟨a, vs, hσ, hf, hav, hz, rr⟩ := E2.lst hpk
            rw [hσ0] at hσ; cases hσ
            obtain ⟨E', P', _⟩ := E2.wlst hpk hf hav (ds' := xs.set j d) (vs' := vs.set j v) (by rw [List.length_set]; exact hz) (rr.set zd j)
            exact .inl ⟨a, vs, kk, j, rfl, z2.int_inv, hav, by rw [← rr.len, ← ixq_ixN]; exact hj, h3 σ _ fp2 E' ((P1.trans P2).trans P') Fix.refl⟩
        | _ => exact False.elim h3
    | dic o ks vs =>
      cases o with
      | false => exact False.elim (show False from by cases kd <;> exact h3)
      | true =>
        have h3' : EndR X.K tb io G Dn σ H fp (if kd.keyOk && decide (ks.length < SZ) then .nx (putE r3 i (.dic true (putq kd d ks vs).1 (putq kd d ks vs).2)) else .bad) := by
          cases kd <;> exact h3
        by_cases hc : (kd.keyOk && decide (ks.length < SZ)) = true
        · rw [if_pos hc] at h3'
          simp only [Bool.and_eq_true, decide_eq_true_eq] at hc
          obtain ⟨a, kvs, hσ, hf, hav, hq, rr⟩ := E2.dic hpk
          rw [hσ0] at hσ; cases hσ
          obtain ⟨kk, b, ek, rfl, hb⟩ := (RO.z z2).key hc.1
          obtain ⟨hq', rr'⟩ := putq_val ek hq rr zd
          obtain ⟨E', P'⟩ := E2.wdic hpk hf hav hq' rr'
          have hlen : kvs.length = ks.length := by
            have := congrArg List.length hq
            simpa using this.symm
          refine .inr ⟨a, _, rfl, DPut.t hav hb ?_, h3' σ _ fp2 E' ((P1.trans P2).trans P') Fix.refl⟩
          rw [hlen, szLine]; exact hc.2
        · rw [if_neg hc] at h3'; exact False.elim h3'
    | _ => exact False.elim (show False from by cases kd <;> exact h3)
/-! ### append, index -/
theorem s_app {x : Str} {i : Nat} {p apos cpos pos : Pos} {e : Expr} {me : Env → Out D} (ho : PE X (.Name x p) (tVar i)) (hl : (apos.endLine == cpos.line) = true) (hs : notStar e = true) (he : PE X e (RdZ X.K tb me)) :
    PS X (.Expr (.Call (.Attribute (.Name x p) "append" apos) [e] [] cpos) pos) (RdS X.K tb io fun r => (hasL i r).fin fun _ r => (me r).fin fun d r => match peek r i with
      | some (.lst true xs) => if xs.length < SZ then .nx (putE r i (.lst true (xs ++ [d]))) else .bad
      | _ => .bad) := by
  refine mkPS (ps_expr (pe_bm PySem.F.plainAttrs_list PySem.F.slot_list_append PySem.F.type_list_append mt_append ho (pa_cons he pa_nil (starE [] X.env hs)) rfl (by rw [starE [] X.env hs]; rfl) hl (starE [] X.env hs) rfl) rfl) fun Dn σ H ⟨G, r, fp, E, h⟩ => ?_
  obtain ⟨x0, r0, e0, h1⟩ := h.fin
  obtain ⟨⟨o0, xs0, hx0⟩, e5⟩ := hasL_ok e0
  rw [e5] at h1
  obtain ⟨d, r1, e1, h2⟩ := h1.fin
  obtain ⟨a0, vs0, hσ0, sq0⟩ := E.isL hx0
  refine ⟨.ref a0, hσ0, .inl ⟨rfl, _, sq0⟩, G, r, fp, d, r1, E, e1, fun v1 H1 fp1 E1 z1 P1 => ?_⟩
  cases hpk : peek r1 i with
  | none => simp only [hpk] at h2; exact False.elim h2
  | some c =>
    simp only [hpk] at h2
    cases c with
    | lst o xs =>
      cases o with
      | false => exact False.elim h2
      | true =>
        by_cases hc : xs.length < SZ
        · simp only [hc, if_true] at h2
          obtain ⟨a, vs, hσ, hf, hav, hz, rr⟩ := E1.lst hpk
          rw [hσ0] at hσ; cases hσ
          obtain ⟨E', P', _⟩ := E1.wlst hpk hf hav (ds' := xs ++ [d]) (vs' := vs ++ [v1]) (by rw [List.length_append, List.length_singleton]; exact hc) (rr.append (.cons z1 .nil))
          exact ⟨a0, vs, v1, rfl, rfl, hav, by rw [← rr.len, szLine]; exact hc, h2 σ _ fp1 E' (P1.trans P') Fix.refl⟩
        · simp only [hc, if_false] at h2; exact False.elim h2
    | _ => exact False.elim h2
theorem s_index {o e : Expr} {apos cpos : Pos} {mo me : Env → Out D} (hb : attributeBase o "index" X.env (eval o X.env) = eval o X.env) (hl : (apos.endLine == cpos.line) = true) (hs : notStar e = true) (ho : PE X o (RdZ X.K tb mo)) (he : PE X e (RdZ X.K tb me)) :
    PE X (.Call (.Attribute o "index" apos) [e] [] cpos) (RdO X.K tb fun r => (mo r).bnd fun x r => (me r).bnd fun y r => match x with
      | .lst false xs => if y.flat && xs.all D.flat then .lift ((xs.findIdx? fun z => D.eqv z y).map fun (k : Nat) => .int k) r else .bad
      | _ => .bad) := by
  refine mkPE (pe_bm PySem.F.plainAttrs_list PySem.F.slot_list_index PySem.F.type_list_index mt_index ho (pa_cons he pa_nil (starE [] X.env hs)) hb (by rw [starE [] X.env hs]; rfl) hl (starE [] X.env hs) rfl) fun σ H Q ⟨G, r, fp, d, r', E, q, k⟩ => ?_
  obtain ⟨x, r1, e1, q1⟩ := bnd_ok.mp q
  obtain ⟨y, r2, e2, q2⟩ := bnd_ok.mp q1
  cases x with
  | lst o xs =>
    cases o with
    | true => cases q2
    | false =>
      by_cases hc : (y.flat && xs.all D.flat) = true
      · simp only [hc, if_true] at q2
        obtain ⟨e3, e4⟩ := lift_ok.mp q2
        subst e4
        simp only [Bool.and_eq_true] at hc
        obtain ⟨kk, hk, rfl⟩ := Option.map_eq_some_iff.mp e3
        obtain ⟨hlt, hyes, hno⟩ := List.findIdx?_eq_some_iff_getElem.mp hk
        refine ⟨G, r, fp, _, r1, E, e1, fun v1 H1 fp1 E1 z1 P1 => ?_⟩
        cases z1 with
        | @lst ds a vs n ha hz rr =>
          refine ⟨.inl ⟨rfl, _, SqL.of ha⟩, G, r1, fp1, y, _, E1, e2, fun v2 H2 fp2 E2 z2 P2 => ?_⟩
          have z1' : RZ X.K H2 (Own G fp2) (.lst false xs) (.ref a) := (RZ.lst n ha hz rr).keep P2.kp
          cases z1' with
          | @lst _ _ vs' n' ha' hz' rr' =>
            obtain ⟨w, hw, rw'⟩ := rr'.get (i := kk) (d := xs[kk]) (by simp [hlt])
            have fl : ∀ {i : Nat} {z : D}, xs[i]? = some z → z.flat = true := fun {i z} h => List.all_eq_true.mp hc.2 z (List.mem_of_getElem? h)
            refine ⟨a, vs', v2, kk, w, rfl, rfl, SqL.of ha', (RO.z z2).flatV hc.1, (RZs.inv z2 hc.1 rr' hc.2).2, hw, ?_, fun m z' hm hz2 => ?_, ?_⟩
            · rw [rw'.eqv z2 (fl (i := kk) (by simp [hlt])) hc.1]; exact hyes
            · obtain ⟨dm, hdm, rm⟩ := rr'.getV hz2
              have := hno m hm
              obtain ⟨hml, hme⟩ := List.getElem?_eq_some_iff.mp hdm
              rw [rm.eqv z2 (fl hdm) hc.1, ← hme]
              simpa using this
            · exact k _ H2 fp2 [] E2.toNil (fun a ha => by simp at ha) (.z (.int _)) (P1.trans P2) fun a ha => by simp at ha
      · simp only [hc] at q2; cases q2
  | _ => cases q2
/-! ### loops -/
theorem s_while {c : Expr} {b : List Stmt} {pos : Pos} {mc : Env → Out Bool} {mb : Env → Res} {n0 : Nat} (hp : PassesOwn (model X.prog X.w) X.A X.env X.xe) (hc : PT X c (RdT X.K tb mc)) (hb : PSs X b (RdS X.K tb io mb)) :
    PS X (.While c b [] pos) (RdS X.K tb io fun r => whL mc mb n0 r) := by
  refine mkPS (ps_while hp hc hb) fun Dn σ H ⟨G, r, fp, E, h⟩ => ?_
  refine ⟨fun n σ1 H1 => ∃ r1 fp1, EnvR X.K tb H1 G r1 σ1 fp1 ∧ EndR X.K tb io G Dn σ1 H1 fp1 (whL mc mb n r1), ⟨n0, r, fp, E, h⟩, fun n σ1 H1 ⟨r1, fp1, E1, h1⟩ => ?_⟩
  cases n with
  | zero => exact False.elim h1
  | succ n =>
    obtain ⟨t, r2, e2, h2⟩ := EndR.fin (show EndR X.K tb io G Dn σ1 H1 fp1 ((mc r1).fin _) from h1)
    refine ⟨G, r1, fp1, t, r2, E1, e2, fun H2 fp2 E2 P2 => ?_⟩
    cases t with
    | false => exact h2 σ1 H2 fp2 E2 P2 Fix.refl
    | true =>
      simp only [if_true] at h2 ⊢
      refine ⟨fun σ3 H3 => ∃ r3 fp3, EnvR X.K tb H3 G r3 σ3 fp3 ∧ EndR X.K tb io G Dn σ3 H3 fp3 (whL mc mb n r3), fun σ3 H3 q => ⟨n, Nat.lt_succ_self _, q⟩, G, r2, fp2, E2, ?_⟩
      cases hm : mb r2 with
      | nx r3 => simp only [hm] at h2; exact fun σ3 H3 fp3 E3 P3 f3 => ⟨r3, fp3, E3, h2.on (P2.trans P3) f3⟩
      | ct r3 => simp only [hm] at h2; exact fun σ3 H3 fp3 E3 P3 f3 => ⟨r3, fp3, E3, h2.on (P2.trans P3) f3⟩
      | bk r3 => simp only [hm] at h2; exact fun σ3 H3 fp3 E3 P3 f3 => h2 σ3 H3 fp3 E3 (P2.trans P3) f3
      | rt d r3 => simp only [hm] at h2; exact fun v σ3 H3 fp3 ff E3 hG z P3 nw f3 => h2 v σ3 H3 fp3 ff E3 hG z (P2.trans P3) (nw_trans P2 P3 (fun a ha => E3.gok a (.inr ha)) nw) f3
      | exn => simp only [hm] at h2; exact h2
      | bad => simp only [hm] at h2; exact h2
def forF (tg : T) (mb : Env → Res) : D → Env → Res := fun x r => match bindT r tg x with
  | some r => mb r
  | none => .bad
theorem s_for {tgE it : Expr} {b : List Stmt} {pos : Pos} {tg : T} {mi : Env → Out (List D)} {mb : Env → Res} (hp : PassesOwn (model X.prog X.w) X.A X.env X.xe) (hc : X.calm = true) (hio : ∀ k ∈ tg.slots, io ≠ some k) (hi : PI X tgE it (RdI X.K tb mi)) (hg : PG X tgE (RdG X.K tb tg)) (hb : PSs X b (RdS X.K tb io mb))
    (hs : ∀ x, foldedSetIterable it X.env x = pure x) : PS X (.For tgE it b [] pos) (RdS X.K tb io fun r => (mi r).fin fun xs r => forL (forF tg mb) xs r) := by
  refine mkPS (ps_for hp hc hi hg hb hs) fun Dn σ H ⟨G, r, fp, E, h⟩ => ?_
  obtain ⟨xs, r0, e1, h1⟩ := h.fin
  refine ⟨G, r, fp, xs, r0, E, e1, fun J H1 fp1 E1 P1 hlen itk => ?_⟩
  obtain ⟨GI, g0, gk, w⟩ := itk
  have kpo : ∀ {H2 : Hp} {fp2 : Nat → List Addr}, Pres H1 fp1 H2 fp2 → Keep H1 H2 (Own G fp1) (Own G fp2) := fun P => P.kp
  refine for_it w (fun i σ2 H2 => ∃ r2 fp2, EnvR X.K tb H2 G r2 σ2 fp2 ∧ Pres H1 fp1 H2 fp2 ∧ EndR X.K tb io G Dn σ2 H2 fp2 (forL (forF tg mb) (xs.drop i) r2)) ⟨r0, fp1, E1, Pres.refl, h1.on P1 Fix.refl⟩ ?_ ?_ ?_
  · rintro i σ2 H2 hi ⟨r2, fp2, E2, P2, h2⟩
    exact gk H2 _ P2.kp
  · rintro i x σ2 H2 H3 hi ⟨r2, fp2, E2, P2, h2⟩ yy
    obtain ⟨gr, d0, hd0, hrz⟩ := yy
    have hdrop : xs.drop i = d0 :: xs.drop (i + 1) := by
      obtain ⟨hl, he⟩ := List.getElem?_eq_some_iff.mp hd0
      rw [List.drop_eq_getElem_cons hl, he]
    rw [hdrop] at h2
    obtain ⟨E3, P3, kp3, _⟩ := E2.grown gr
    have hx : RZ X.K H3 (Own G fp2) d0 x := hrz _ P2.kp fun a ha => E2.notOwn ha
    cases hbt : bindT r2 tg d0 with
    | none =>
      have : forF tg mb d0 r2 = .bad := by unfold forF; rw [hbt]
      simp only [forL, this] at h2
      exact False.elim h2
    | some r4 =>
      have : forF tg mb d0 r2 = mb r4 := by unfold forF; rw [hbt]
      simp only [forL, this] at h2
      refine ⟨G, r2, fp2, d0, r4, E3, hx, hbt, fun σ4 fp4 E4 P4 hj4 hl4 => ⟨G, r4, fp4, E4, ?_⟩⟩
      have f4 : Fix io σ2 σ4 := fun s hs2 => hj4 s fun z => hio s z hs2
      cases hm : mb r4 with
      | nx r5 => simp only [hm] at h2; exact fun σ5 H5 fp5 E5 P5 f5 => ⟨r5, fp5, E5, (P2.trans P3).trans (P4.trans P5), h2.on (P3.trans (P4.trans P5)) (f4.trans f5)⟩
      | ct r5 => simp only [hm] at h2; exact fun σ5 H5 fp5 E5 P5 f5 => ⟨r5, fp5, E5, (P2.trans P3).trans (P4.trans P5), h2.on (P3.trans (P4.trans P5)) (f4.trans f5)⟩
      | bk r5 => simp only [hm] at h2; exact fun σ5 H5 fp5 E5 P5 f5 => h2 σ5 H5 fp5 E5 (P3.trans (P4.trans P5)) (f4.trans f5)
      | rt d r5 => simp only [hm] at h2; exact fun v σ5 H5 fp5 ff E5 hG z P5 nw f5 => h2 v σ5 H5 fp5 ff E5 hG z (P3.trans (P4.trans P5)) (nw_trans (P3.trans P4) P5 (fun a ha => E5.gok a (.inr ha)) nw) (f4.trans f5)
      | exn => simp only [hm] at h2; exact h2
      | bad => simp only [hm] at h2; exact h2
  · rintro σ2 H2 ⟨r2, fp2, E2, P2, h2⟩
    rw [List.drop_length] at h2
    exact h2 σ2 H2 fp2 E2 Pres.refl Fix.refl
end
end Sf
end
section
set_option Elab.async false
set_option maxRecDepth 100000
set_option maxHeartbeats 2000000
set_option linter.all false
/-! SfGen: any, all of a generator expression L[x] for x in a tuple, L a list that the def holds in a cell. -/
namespace Sf
open PySem PySem.Spec PyProof.Rows L2

/-- the truth at place j -/
def trB (bs : List Bool) (j : Nat) : Bool := bs[j]?.getD false
theorem any_trB (bs : List Bool) : (List.range bs.length).any (trB bs) = bs.any id := by
  rw [Bool.eq_iff_iff, List.any_eq_true, List.any_eq_true]
  constructor
  · intro ⟨j, hj, h⟩
    have hj' := List.mem_range.mp hj
    refine ⟨bs[j], List.getElem_mem hj', ?_⟩
    simpa [trB, hj'] using h
  · intro ⟨b, hb, h⟩
    obtain ⟨j, hj, e⟩ := List.getElem_of_mem hb
    refine ⟨j, List.mem_range.mpr hj, ?_⟩
    simpa [trB, hj, e] using h
theorem all_trB (bs : List Bool) : (List.range bs.length).all (trB bs) = bs.all id := by
  rw [Bool.eq_iff_iff, List.all_eq_true, List.all_eq_true]
  constructor
  · intro h b hb
    obtain ⟨j, hj, e⟩ := List.getElem_of_mem hb
    have q := h j (List.mem_range.mpr hj)
    simpa [trB, hj, e] using q
  · intro h j hj
    have hj' := List.mem_range.mp hj
    have q := h _ (List.getElem_mem hj')
    simpa [trB, hj'] using q
section
variable {X : Cx} {pins : List (Addr × Obj)} {σ : L2.St} {H : Hp} {s : Shared}
/-- the generator g, ready to be walked; bs what it will give -/
def ReadyB (X : Cx) (pins : List (Addr × Obj)) (σ : L2.St) (H1 : Hp) (P : Addr) (bs : List Bool) (g : Addr) (s5 : Shared) : Prop :=
  ∃ (fp wr : List Addr) (G : Array GenState → Array GenState → Prop) (F : Nat → Value → Prop) (St : Nat → Shared → Prop),
    WalksS X.prog X.w X.A.in1 g fp wr G bs.length F St ∧ St 0 s5 ∧
    TruthOf X.prog X.w X.A.in1 F (trB bs) ∧
    ∀ s', Moved wr G s5 s' → ∃ H2, GxR.Tabbed P H1 H2 ∧ Inv X pins σ H2 s'
/-- the element's own name; the list's name, captured -/
structure GenL (env : PySem.Env) (scope : Scope) (x L : Str) : Prop where
  kind : scope.kind = .function
  co : scope.isCoroutine = false
  cell : ∀ y ∈ scope.names, y.2 ≠ .cell
  dot : scope.names.lookup (".0" : Str) = some NameKind.local
  loc : scope.names.lookup x = some .local
  fr : scope.names.lookup L = some .free
  free : ∀ y ∈ scope.names, y.2 = .free → y.1 = L
  cl : env.scope.names.lookup L = some .cell
  d1 : (x == ("__debug__" : Str)) = false
  d2 : (L == ("__debug__" : Str)) = false
  d3 : (L == ("__classdict__" : Str)) = false
theorem cloFrom_one {cells : List (Str × Addr)} {L : Str} {c : Addr} (hc : cells.lookup L = some c) : ∀ {names : List (Str × NameKind)} {acc : List (Str × Addr)}, (∀ y ∈ names, y.2 = .free → y.1 = L) → (∀ y ∈ acc, y = (L, c)) → ∀ y ∈ cloFrom cells names acc, y = (L, c)
  | [], acc, _, ha, y, hy => ha y hy
  | (n, k) :: r, acc, hn, ha, y, hy => by
    unfold cloFrom at hy
    by_cases hk : (k == NameKind.free) = true
    · rw [if_pos hk] at hy
      have e : n = L := hn (n, k) List.mem_cons_self (by simpa using hk)
      refine cloFrom_one hc (fun y hy => hn y (List.mem_cons_of_mem _ hy)) (fun y hy => ?_) y hy
      rcases List.mem_cons.mp hy with z | z
      · rw [z, e, hc]; rfl
      · exact ha y z
    · rw [if_neg hk] at hy
      exact cloFrom_one hc (fun y hy => hn y (List.mem_cons_of_mem _ hy)) ha y hy
theorem lookup_all {L : Str} {c : Addr} : ∀ {l : List (Str × Addr)}, (∀ y ∈ l, y = (L, c)) → (∃ c', (L, c') ∈ l) → l.lookup L = some c
  | [], _, ⟨_, h⟩ => by cases h
  | y :: l, h, _ => by
    rw [h y List.mem_cons_self]
    simp [List.lookup]
def ItB (K : PySem.W.Frag) (σ : L2.St) (i : Nat) (P : Addr) (R : List Bool → Hp → Prop) : VK := fun v H1 => ∃ (t : Addr) (ks : List Int) (bs : List Bool) (a : Addr) (vs : List V), v = .ref t ∧ SqT K H1 t (ks.map V.int) ∧ σ[i]? = some (some (.ref a)) ∧ SqL K H1 a vs ∧ bs.length = ks.length ∧
  (∀ (j : Nat) (k : Int), ks[j]? = some k → 0 ≤ k ∧ k < 2 ^ 63 ∧ ∃ b, bs[j]? = some b ∧ vs[k.toNat]? = some (V.bl b)) ∧ GxR.TabG H1 P ∧ R bs H1
theorem gen_at {c P : Addr} {iter : Expr} {x L : Str} {i k : Nat} {px p1 p2 p3 gpos : Pos} {scope : Scope} {te : TE} {Q' : Value → Shared → Prop} {R : List Bool → Hp → Prop}
    (hr : Room k X.A) (TB : GxR.TabB X.base X.mg c P) (hcode : X.env.code = .ref c) (S : GenL X.env scope x L) (hL : X.N[i]? = some L) (hi : PE X iter te)
    (hs : ∀ v, genFold iter X.env v = pure v) (I : Inv X pins σ H s) (h : te σ H (ItB X.K σ i P R))
    (hQ : ∀ bs H1 g s5, R bs H1 → ReadyB X pins σ H1 P bs g s5 → Q' (.ref g) s5) :
    wpAny (model X.prog X.w) X.A (eval (.GeneratorExp (.Subscript (.Name L p1) (.Name x p2) p3) [⟨.Name x px, iter, [], 0⟩] scope gpos) X.env) Q' X.xe s := by
  have hkc : X.env.kindOf L = some .cell := S.cl
  obtain ⟨cl0, hcl0⟩ := I.ok.has L (.inl hkc)
  have hfree : ∀ y ∈ scope.names, y.2 = .free → ∃ c, X.env.cells.lookup y.1 = some c := fun y hy e => by rw [S.free y hy e]; exact ⟨cl0, hcl0⟩
  have hclo : (cloFrom X.env.cells scope.names []).lookup L = some cl0 :=
    lookup_all (cloFrom_one hcl0 S.free (fun y hy => by cases hy)) ⟨_, cloFrom_has (PySem.mem_of_lookup S.fr)⟩
  refine wpAny_GeneratorExp_walksQ hr.hd S.co (closure_ok hfree) S.cell S.dot S.loc S.kind (by have := hr.dp; omega) ?_ hs
  refine thn (hi.run pins s σ H _ I h) fun xv s1 ⟨v, H1, I1, r1, q1⟩ => ?_
  obtain ⟨ta, ks, bs, a, vs, rfl, hT, hσ, hq, hlb, hbs, ⟨ps, hP, ht⟩, q1⟩ := q1
  cases r1
  obtain ⟨its, rvt, pt, hzt⟩ := I1.tuple hT
  obtain ⟨itl, rvl, pll, hzl⟩ := I1.list hq
  have hkv : ∃ c u, X.env.cells.lookup L = some c ∧ u = Value.ref a ∧ s1.heap.IsCell c (some u) := by
    obtain ⟨m, hn, hl⟩ := I1.loc
    obtain ⟨u, ru, lk⟩ := hl i L (.ref a) hL hσ (.inr (.inl hkc))
    rcases lk with ⟨z, _⟩ | ⟨_, c', e1, e2⟩
    · rw [hkc] at z; cases z
    · exact ⟨c', u, e1, ru, e2⟩
  obtain ⟨c1, u1, e1, rfl, hcv⟩ := hkv
  rw [hcl0] at e1
  cases e1
  have hta : ta < s1.heap.objs.size := by obtain ⟨o1, ho1, _⟩ := id pt; exact Heap.lt_size ho1
  refine wpAny_pyIter_tuple (show s1.heap.IsTuple ta its.toArray from pt) ?_
  generalize ho : ({ cls := .type "tuple_iterator", data := .fields #[.ref ta, .int 0 0] } : Obj) = o
  have hst : (s1.heap.push o).IsTupleIter s1.heap.objs.size ta 0 ∧ (s1.heap.push o).IsTuple ta its.toArray := ⟨⟨o, Heap.get?_push_size _ (by rw [← ho] <;> rfl), by rw [← ho], by rw [← ho] <;> rfl⟩, Heap.IsTuple.push pt o⟩
  have W : ∀ A' : Around, A'.handled = none → Walks X.prog X.w A' s1.heap.objs.size [s1.heap.objs.size, ta] [s1.heap.objs.size] its.toArray.size (fun i v => its.toArray[i]? = some v) (fun i h => h.IsTupleIter s1.heap.objs.size ta i ∧ h.IsTuple ta its.toArray) := fun A' hA => Walks.tuple hA _ _ (Nat.ne_of_lt hta) _
  have hPs : s1.heap.get? P = some { cls := .none, data := .fields ps } := I1.hok P _ hP
  have hPlt : P < s1.heap.objs.size := Heap.lt_size hPs
  have hP2 : (s1.heap.push o).get? P = some { cls := .none, data := .fields ps } := Heap.get?_push_of_some _ hPs
  have cd : PySem.W.CodeHd (s1.heap.push o) c P := TB.code.keeps fun b u e => Heap.get?_push_of_some _ (I1.bk b u e)
  have lim2 : (s1.heap.push o).NoLimit := I1.nolimit.push o
  have hlen : its.toArray.size = bs.length := by
    have := rvt.length
    rw [List.length_map] at this
    rw [List.size_toArray, hlb, ← this]
  have nPt : ta ≠ P := fun e => by
    obtain ⟨o1, ho1, hc1, _⟩ := id pt
    rw [e, hPs] at ho1; cases ho1; cases hc1
  have cont : ∀ (code : Value) (h3 : Heap) (tk : Nat) (ps' : Array Value), Heap.ExtBut P (s1.heap.push o) h3 → (s1.heap.push o).objs.size ≤ h3.objs.size → h3.get? P = some { cls := .none, data := .fields ps' } → (∃ more, ps' = ps ++ more) → TriplesOk ps'.toList →
      wpAny (model X.prog X.w) X.A (builtinsFor X.env.globals X.env.builtins) (fun bi s₄ =>
        ∃ Ia fp wr n₀ Pf St₀ pz F, Value.ref s1.heap.objs.size = .ref Ia ∧ (∀ A' : Around, A'.handled = none → Walks X.prog X.w A' Ia fp wr n₀ Pf St₀) ∧ St₀ 0 s₄.heap ∧ (∀ b ∈ fp, b < s₄.heap.objs.size) ∧ s₄.heap.NoLimit ∧ cStatics ∉ wr ∧
          (∀ href : Heap, (∀ b o, s₄.heap.get? b = some o → href.get? b = some o) →
            QuietGen X.prog X.w (genEnv scope (cloFrom X.env.cells scope.names []) s₄.heap.objs.size code bi X.env) x [] (.Subscript (.Name L p1) (.Name x p2) p3) (List.range s₄.heap.objs.size) wr Pf pz F href) ∧
          (∀ a h₅ tk gs, gs.bare = true → s₄.heap.objs.size < a → h₅.objs.size = a + 1 → (∀ b o, s₄.heap.get? b = some o → h₅.get? b = some o) →
            WalksS X.prog X.w X.A.in4 a (a :: s₄.heap.objs.size :: List.range s₄.heap.objs.size) (s₄.heap.objs.size :: wr) (GenOnlyQ s₄.gens.size) (passing pz n₀ 0).length
              (fun j y => ∃ i, (passing pz n₀ 0)[j]? = some i ∧ F i y) (GenAt X.prog X.w X.A.in4 a s₄.gens.size s₄.heap.objs.size (List.range s₄.heap.objs.size) wr pz n₀ F) →
            GenAt X.prog X.w X.A.in4 a s₄.gens.size s₄.heap.objs.size (List.range s₄.heap.objs.size) wr pz n₀ F 0 { s₄ with gens := s₄.gens.push gs, toks := tk, heap := h₅ } →
            Q' (.ref a) { s₄ with gens := s₄.gens.push gs, toks := tk, heap := h₅ })) X.xe { s1 with heap := h3, toks := tk } := by
    intro code h3 tk ps' hx hsz hP3 hmore ht3
    obtain ⟨bm, ob, e1, e2, e3, e4, e5, e6, e7, e8⟩ := TB.bm
    have hcP : cStatics ≠ P := fun e => by
      obtain ⟨_, hns, _⟩ := I1.nolimit
      obtain ⟨o', es, ep, ho, hd, _⟩ := hns
      rw [e, hPs] at ho
      cases ho
      cases hd
    have hcl : cStatics < s1.heap.objs.size := let ⟨_, hns, _⟩ := I1.nolimit; hns.lt
    have sz2 : (s1.heap.push o).objs.size = s1.heap.objs.size + 1 := Heap.size_push ..
    have keep3 : ∀ b u, b ≠ P → s1.heap.get? b = some u → h3.get? b = some u := fun b u hb e => hx b u hb (Heap.get?_push_of_some _ e)
    refine wpAny_builtinsFor (m := X.mg) (by rw [I1.ok.glob]; exact ((I1.mod.glob.keeps I1.bk).push o).extBut hx TB.gP) e1 e2 (keep3 _ _ e4 (I1.bk _ _ e5)) e6 e7 e8 ?_
    refine ⟨s1.heap.objs.size, [s1.heap.objs.size, ta], [s1.heap.objs.size], its.toArray.size, _, _, (fun _ => true), (fun i y => ∃ b, bs[i]? = some b ∧ y = .bool b), rfl, W, ?_, ?_, lim2.extBut hx hcP, ?_, ?_, ?_⟩
    · refine (W X.A hr.hd).frame _ _ _ hst fun b hb u e => hx b u (fun z => ?_) e
      simp only [List.mem_cons, List.not_mem_nil, or_false] at hb
      rcases hb with z2 | z2
      · exact Nat.ne_of_lt hPlt (z.symm.trans z2)
      · exact nPt (z2.symm.trans z)
    · intro b hb
      have hs3 : (s1.heap.objs.size : Nat) < h3.objs.size := by omega
      simp only [List.mem_cons, List.not_mem_nil, or_false] at hb
      rcases hb with z | z
      · rw [z]; exact hs3
      · rw [z]; exact Nat.lt_trans hta hs3
    · intro z
      rcases List.mem_cons.mp z with z | z
      · exact Nat.ne_of_lt hcl z
      · cases z
    · intro href hhref
      refine ⟨fun A' E' i v s₂ m₂ hA hPv hn hm hk => ?_, fun A' E' i v s₂ m₂ hA hPv hp hn hm hk => ?_⟩
      · simp only [List.forIn_nil]
        exact wpAny_pure ⟨rfl, GxR.keeps_refl _⟩
      · -- the item, the list's item
        have hPv : its.toArray[i]? = some v := hPv
        have hPv' : its[i]? = some v := by simpa using hPv
        have hil : i < ks.length := by
          have h1 : i < its.length := (List.getElem?_eq_some_iff.mp hPv').1
          have h2 : its.length = bs.length := by rw [← hlen, List.size_toArray]
          omega
        obtain ⟨w0, hw0, rw0⟩ := rvt.get (i := i) (x := .int ks[i]) (by simp [hil])
        rw [hPv'] at hw0
        cases hw0
        obtain ⟨tt, rfl⟩ := rw0
        obtain ⟨k0, k1, b, hb, hvb⟩ := hbs i ks[i] (by simp [hil])
        obtain ⟨w1, hw1, rw1⟩ := rvl.get hvb
        have rw1 : w1 = .bool b := rw1
        have old : ∀ d u, d ≠ P → s1.heap.get? d = some u → s₂.heap.get? d = some u := fun d u hd e => by
          refine hk d (List.mem_range.mpr ?_) (fun z => ?_) u (hhref d u (keep3 d u hd e))
          · have hs3 : (s1.heap.objs.size : Nat) < h3.objs.size := by omega
            exact Nat.lt_trans (Heap.lt_size e) hs3
          · simp only [List.mem_cons, List.not_mem_nil, or_false] at z
            have := Heap.lt_size e
            rw [z] at this
            exact Nat.lt_irrefl _ this
        have hcell : s₂.heap.IsCell cl0 (some (.ref a)) := by
          obtain ⟨oc, hoc, hdc⟩ := hcv
          refine ⟨oc, old _ _ (fun z => ?_) hoc, hdc⟩
          rw [z, hPs] at hoc; cases hoc; cases hdc
        have hlist : s₂.heap.IsList a itl.toArray := by
          obtain ⟨ol, hol, hcl, rest⟩ := pll.isList
          refine ⟨ol, old _ _ (fun z => ?_) hol, hcl, rest⟩
          rw [z, hPs] at hol; cases hol; cases hcl
        refine Subscript_ (wpAny_Name (wpAny_loadName_free (c := cl0) (v := .ref a) S.kind S.fr hclo hcell (wpAny_Name (wpAny_loadName_local S.kind S.loc hn hm ?_) S.d1) S.d3) S.d2)
        exact item_listR hlist k0 k1 (by simpa using hw1) ⟨⟨b, hb, rw1⟩, GxR.keeps_refl _⟩
    · intro g h5 tk5 gs hgb hag hsz5 hk5 W5 hat
      simp only [GxR.passing_true, List.length_range] at W5
      rw [hlen] at W5
      refine hQ bs H1 g _ q1 ⟨_, _, _, _, _, W5.in4_1, (by rw [← hlen]; exact hat), ?_, fun s' hm => ?_⟩
      · intro j y sj Qj Ej hy hQj
        obtain ⟨i, hij, b, hb, rfl⟩ := hy
        obtain ⟨hj, ej⟩ := List.getElem?_eq_some_iff.mp hij
        rw [List.getElem_range] at ej
        subst ej
        have hQ2 : Qj (trB bs j) sj := hQj
        unfold trB at hQ2
        rw [hb] at hQ2
        exact wpAny_truthy_bool hQ2
      · obtain ⟨more, em⟩ := hmore
        have nwr : ∀ b u, s1.heap.get? b = some u → b ∉ h3.objs.size :: [s1.heap.objs.size] := fun b u e hb => by
          have hl := Heap.lt_size e
          rcases List.mem_cons.mp hb with z | z
          · rw [z] at hl
            have h9 : (h3.objs.size : Nat) < s1.heap.objs.size := hl
            omega
          · rcases List.mem_cons.mp z with z | z
            · rw [z] at hl
              exact Nat.lt_irrefl _ hl
            · cases z
        have J := GxR.inv_tab (more := more) (h' := s'.heap) (g' := s'.gens) (d' := s'.drawn) (t' := s'.toks) I1 hP (fun b u hb e => hm.heap b u (nwr b u e) (hk5 b u (keep3 b u hb e)))
          (by rw [← em]; exact hm.heap P _ (nwr P _ hPs) (hk5 P _ hP3)) (AllBare.movedS (I1.bare.push hgb) hm)
        rw [GxR.sh_eta s1 s' hm.os] at J
        exact ⟨upd H1 P (.tbl (ps ++ more)), ⟨⟨ps ++ more, upd_same, by rw [← em]; exact ht3⟩, fun b hb => upd_ne hb⟩, J⟩
  refine ⟨lim2, ?_⟩
  cases hf : codeAmong gpos ps.toList with
  | none =>
    refine wpAny_genexprCodeX hcode (cd.code hP2 ht) (cd.tab hP2) hf fun c' h' tk hx hge hlt hco' _ htab' _ => ?_
    obtain ⟨o1, vs, f1, tf, fl, tg, inF, tx, tt, op, _, _, _, _, _, _, _, _, _, htr, _⟩ := hco'
    exact cont _ h' tk _ hx (Nat.le_trans hge (Nat.le_of_lt hlt)) htab'.2 ⟨_, rfl⟩ htr
  | some cv =>
    refine wpAny_genexprCode_hit hcode (cd.code hP2 ht) hf ?_
    exact cont cv (s1.heap.push o) s1.toks ps (Heap.ExtBut.refl _ _) (Nat.le_refl _) hP2 ⟨#[], by simp⟩ ht
/-- behind it the def's table may have grown -/
def tGen (K : PySem.W.Frag) (f : List Bool → Bool) (i : Nat) (P : Addr) (te : TE) : TE := fun σ H Q => te σ H (ItB K σ i P fun bs H1 => ∀ H2, GxR.Tabbed P H1 H2 → Q (.bl (f bs)) H2)
theorem pe_anyB {c P : Addr} {iter : Expr} {x L : Str} {i k : Nat} {px p p1 p2 p3 gpos pos : Pos} {scope : Scope} {te : TE} (hr : Room k X.A) (hg : Gl X "any") (hm : X.mg "any" = none) (TB : GxR.TabB X.base X.mg c P) (hcode : X.env.code = .ref c)
    (S : GenL X.env scope x L) (hL : X.N[i]? = some L) (hi : PE X iter te) (hs : ∀ v, genFold iter X.env v = pure v) :
    PE X (.Call (.Name "any" p) [.GeneratorExp (.Subscript (.Name L p1) (.Name x p2) p3) [⟨.Name x px, iter, [], 0⟩] scope gpos] [] pos) (tGen X.K (fun bs => bs.any id) i P te) := by
  refine ⟨fun pins s σ H Q I h => ?_⟩
  refine wpAny_Call_Name_kw (ld_blt I hg hm boot_any ?_)
  refine PyProof.Rows.callWith_builtin1 ?_ (by rfl) (by rfl)
  show wpAny _ _ (spliced ((false, eval (.GeneratorExp (.Subscript (.Name L p1) (.Name x p2) p3) [⟨.Name x px, iter, [], 0⟩] scope gpos) X.env) :: backTo pos (starEach [] X.env))) _ _ s
  refine Calls.spliced_cons (gen_at (R := fun bs H1 => ∀ H2, GxR.Tabbed P H1 H2 → Q (.bl (bs.any id)) H2) hr TB hcode S hL hi hs I h fun bs H1 g s5 hR hG => ?_)
  obtain ⟨fp, wr, G, F, St, W, hst, htr, hI⟩ := hG
  refine Calls.spliced_nil ?_
  refine call_any_walkS (W.self 0 _ _ _ hst ⟨g, fp, wr, G, _, F, St, _, rfl, W, hst, htr, fun s' hmv => ?_⟩)
  obtain ⟨H2, hT, J⟩ := hI s' hmv
  refine ⟨.bl _, H2, J, rfl, ?_⟩
  rw [any_trB bs]
  exact hR H2 hT
theorem pe_allB {c P : Addr} {iter : Expr} {x L : Str} {i k : Nat} {px p p1 p2 p3 gpos pos : Pos} {scope : Scope} {te : TE} (hr : Room k X.A) (hg : Gl X "all") (hm : X.mg "all" = none) (TB : GxR.TabB X.base X.mg c P) (hcode : X.env.code = .ref c)
    (S : GenL X.env scope x L) (hL : X.N[i]? = some L) (hi : PE X iter te) (hs : ∀ v, genFold iter X.env v = pure v) (hb : bootBuiltins "all" = some (.builtin "all")) :
    PE X (.Call (.Name "all" p) [.GeneratorExp (.Subscript (.Name L p1) (.Name x p2) p3) [⟨.Name x px, iter, [], 0⟩] scope gpos] [] pos) (tGen X.K (fun bs => bs.all id) i P te) := by
  refine ⟨fun pins s σ H Q I h => ?_⟩
  refine wpAny_Call_Name_kw (ld_blt I hg hm hb ?_)
  refine PyProof.Rows.callWith_builtin1 ?_ (by rfl) (by rfl)
  show wpAny _ _ (spliced ((false, eval (.GeneratorExp (.Subscript (.Name L p1) (.Name x p2) p3) [⟨.Name x px, iter, [], 0⟩] scope gpos) X.env) :: backTo pos (starEach [] X.env))) _ _ s
  refine Calls.spliced_cons (gen_at (R := fun bs H1 => ∀ H2, GxR.Tabbed P H1 H2 → Q (.bl (bs.all id)) H2) hr TB hcode S hL hi hs I h fun bs H1 g s5 hR hG => ?_)
  obtain ⟨fp, wr, G, F, St, W, hst, htr, hI⟩ := hG
  refine Calls.spliced_nil ?_
  refine call_all_walkS (W.self 0 _ _ _ hst ⟨g, fp, wr, G, _, F, St, _, rfl, W, hst, htr, fun s' hmv => ?_⟩)
  obtain ⟨H2, hT, J⟩ := hI s' hmv
  refine ⟨.bl _, H2, J, rfl, ?_⟩
  rw [all_trB bs]
  exact hR H2 hT
end
end Sf
end
section
set_option Elab.async false
set_option maxRecDepth 100000
set_option linter.all false
/-! SfCall: generators, calls of the module's defs. -/
namespace Sf
open PySem PySem.Spec PyProof.Rows L2

section
variable {X : Cx} {K : PySem.W.Frag} {tb : List Addr} {H H' : Hp} {G : Addr → Prop} {r r' : Env} {σ : L2.St} {fp fp' : Nat → List Addr}
/-! ### any, all -/
theorem EnvR.tabbed {P : Addr} {H2 : Hp} (E : EnvR K tb H G r σ fp) (hP : P ∈ tb) (t : GxR.Tabbed P H H2) : EnvR K tb H2 G r σ fp ∧ Pres H fp H2 fp := by
  obtain ⟨ps, hp, _⟩ := E.tab P hP
  have ne : ∀ a o, H a = some o → (∀ q, o ≠ .tbl q) → a ≠ P := fun a o e n z => by
    subst z
    rw [hp] at e; cases e
    exact n _ rfl
  have kp : Keep H H2 (Own G fp) (Own G fp) := ⟨fun a o e n q => ⟨by rw [t.2 a (ne a o e q)]; exact e, n⟩, fun a x y e => by rw [t.2 a (ne a _ e (fun _ q => nomatch q))]; exact e⟩
  refine ⟨⟨E.len, fun i d h => ?_, E.emp, E.dis, E.out, fun a h => ?_, fun Q hQ => ?_⟩, ⟨fun a o e n q => ⟨by rw [t.2 a (ne a o e q)]; exact e, n⟩, kp.frz, fun a q e => ?_⟩⟩
  · obtain ⟨v, h1, h2⟩ := E.rel i d h
    refine ⟨v, h1, h2.keep kp fun a ha => ?_⟩
    obtain ⟨o, ho, hn⟩ := h2.mem a ha
    exact t.2 a (ne a o ho hn)
  · obtain ⟨o, ho, hn⟩ := E.gok a h
    exact ⟨o, by rw [t.2 a (ne a o ho hn)]; exact ho, hn⟩
  · by_cases z : Q = P
    · subst z; exact t.1
    · obtain ⟨qs, e, tq⟩ := E.tab Q hQ
      exact ⟨qs, by rw [t.2 Q z]; exact e, tq⟩
  · by_cases z : a = P
    · subst z
      obtain ⟨qs, e2, _⟩ := t.1
      exact ⟨qs, e2⟩
    · exact ⟨q, by rw [t.2 a z]; exact e⟩
theorem picks_ok {O : Addr → Prop} {ys : List D} {vs : List V} (r : RZs K H O ys vs) : ∀ {xs : List D} {us : List V} {bs : List Bool}, RZs K H O xs us → picks ys xs = some bs → ∃ ks : List Int, us = ks.map V.int ∧ bs.length = ks.length ∧
    ∀ (j : Nat) (k : Int), ks[j]? = some k → 0 ≤ k ∧ k < 2 ^ 63 ∧ ∃ b, bs[j]? = some b ∧ vs[k.toNat]? = some (V.bl b)
  | [], _, bs, .nil, h => by
    cases h
    exact ⟨[], rfl, rfl, fun j k e => by simp at e⟩
  | x :: xs, _, bs, .cons (v := v) (vs := us) a b, h => by
    cases x with
    | int k =>
      simp only [picks] at h
      by_cases hk : 0 ≤ k ∧ k < 2 ^ 40
      · rw [if_pos hk] at h
        split at h
        · rename_i c hc
          obtain ⟨bs', hb, rfl⟩ := Option.map_eq_some_iff.mp h
          obtain ⟨ks, rfl, hl, hall⟩ := picks_ok r b hb
          obtain ⟨w, hw, rw'⟩ := r.get hc
          refine ⟨k :: ks, by rw [a.int_inv]; rfl, by simp [hl], fun j k' e => ?_⟩
          cases j with
          | zero =>
            have : k = k' := by simpa using e
            subst this
            exact ⟨hk.1, by omega, c, rfl, by rw [hw, rw'.bl_inv]⟩
          | succ j =>
            obtain ⟨h1, h2, b', h3, h4⟩ := hall j k' (by simpa using e)
            exact ⟨h1, h2, b', by simpa using h3, h4⟩
        · cases h
      · rw [if_neg hk] at h; cases h
    | _ => simp only [picks, reduceCtorEq] at h
theorem genB {i : Nat} {P : Addr} {f : List Bool → Bool} {m : Env → Out D} {σ : L2.St} {H : Hp} {Q : VK} (hP : P ∈ tb) (h : RdO K tb (fun r => (m r).bnd fun x r => .lift ((pickB (peek r i) x).map fun bs => .bl (f bs)) r) σ H Q) : tGen K f i P (RdZ K tb m) σ H Q := by
  obtain ⟨G, r, fp, d, r', E, q, k⟩ := h
  obtain ⟨x, r1, e1, q1⟩ := bnd_ok.mp q
  obtain ⟨e3, e4⟩ := lift_ok.mp q1
  subst e4
  obtain ⟨bs, hb, rfl⟩ := Option.map_eq_some_iff.mp e3
  unfold pickB at hb
  split at hb
  · rename_i o ys xs hp
    refine ⟨G, r, fp, _, _, E, e1, fun v H1 fp1 E1 z1 P1 => ?_⟩
    obtain ⟨w, hσ, ro⟩ := E1.rel i _ hp
    obtain ⟨a, vs, rfl, ha, hz, rr⟩ := ro.seq
    cases z1 with
    | @tup _ t us n ht hz2 rr2 =>
      obtain ⟨ks, rfl, hl, hall⟩ := picks_ok rr rr2 hb
      refine ⟨t, ks, bs, a, vs, rfl, SqT.of ht, hσ, SqL.of ha, hl, hall, E1.tab P hP, fun H2 tt => ?_⟩
      obtain ⟨E2, P2⟩ := E1.tabbed hP tt
      exact bl_end E2 (P1.trans P2) k
  · cases hb
/-! ### calls -/
/-- what a def promises: its parameter io may be changed -/
def spF (K : PySem.W.Frag) (tb : List Addr) (np : Nat) (io : Option Nat) (run : List D → Out D) : Sp := fun vs H Q _ => vs.length = np ∧ ∃ G ds fp d fin, EnvR K tb H G (ds.map some) (vs.map some) fp ∧ run ds = .ok d fin ∧ (∀ j, io ≠ some j → fp j = []) ∧
  ∀ v H' fp' f, EnvR K tb H' (fun a => G a ∨ a ∈ f) fin (vs.map some) fp' → (∀ a ∈ f, ¬ G a) → RO K H' (Own (fun a => G a ∨ a ∈ f) fp') d v f → Pres H fp H' fp' → (∀ a ∈ f, ∀ o, H a = some o → ∃ i, a ∈ fp i) → Q v H'
/-- arguments: that at io is a variable, the others stand still -/
inductive RC (K : PySem.W.Frag) (H : Hp) (O : Addr → Prop) (io : Option Nat) (σ : L2.St) : Nat → List E → List D → List V → Prop
  | nil {n : Nat} : RC K H O io σ n [] [] []
  | z {n : Nat} {e : E} {es : List E} {d : D} {ds : List D} {v : V} {vs : List V} : io ≠ some n → RZ K H O d v → RC K H O io σ (n + 1) es ds vs → RC K H O io σ n (e :: es) (d :: ds) (v :: vs)
  | io {n : Nat} {e : E} {es : List E} {d : D} {ds : List D} {v : V} {vs : List V} {s : Nat} : io = some n → e.slot? = some s → σ[s]? = some (some v) → RC K H O io σ (n + 1) es ds vs → RC K H O io σ n (e :: es) (d :: ds) (v :: vs)
def RdAc (K : PySem.W.Frag) (tb : List Addr) (io : Option Nat) (n : Nat) (es : List E) (m : Env → Out (List D)) : TA := fun σ H Q => ∃ G r fp ds r', EnvR K tb H G r σ fp ∧ m r = .ok ds r' ∧
  ∀ vs H' fp', EnvR K tb H' G r' σ fp' → RC K H' (Own G fp') io σ n es ds vs → Pres H fp H' fp' → Q vs H'
theorem RC.keep {O O' : Addr → Prop} {io : Option Nat} (k : Keep H H' O O') {n : Nat} {es : List E} {ds : List D} {vs : List V} (h : RC K H O io σ n es ds vs) : RC K H' O' io σ n es ds vs := by
  induction h with
  | nil => exact .nil
  | z a b c ih => exact .z a (b.keep k) ih
  | io a b c d ih => exact .io a b c ih
theorem c_nil {io : Option Nat} {n : Nat} : PA X [] (RdAc X.K tb io n [] (evc io n [] [])) := by
  refine mkPA pa_nil fun σ H Q ⟨G, r, fp, ds, r', E, q, k⟩ => ?_
  have q' : Out.ok [] r = Out.ok ds r' := q
  cases q'
  exact k [] H fp E .nil Pres.refl
theorem rc_consZ {io : Option Nat} {n : Nat} {t : E} {ts : List E} {m : Md} {ms : List Md} {σ : L2.St} {H : Hp} {Q : List V → Hp → Prop} (hio : io ≠ some n) (h : RdAc K tb io n (t :: ts) (evc io n (t :: ts) (m :: ms)) σ H Q) : tCons (RdZ K tb m.z) (RdAc K tb io (n + 1) ts (evc io (n + 1) ts ms)) σ H Q := by
  obtain ⟨G, r, fp, ds, r', E, q, k⟩ := h
  have q0 : (m.z r).bnd (fun d r => (evc io (n + 1) ts ms r).bnd fun ds r => .ok (d :: ds) r) = .ok ds r' := by
    have := q
    simp only [evc, if_neg hio] at this
    exact this
  obtain ⟨x, r1, e1, q1⟩ := bnd_ok.mp q0
  obtain ⟨xs, r2, e2, q2⟩ := bnd_ok.mp q1
  cases q2
  exact ⟨G, r, fp, x, r1, E, e1, fun v H1 fp1 E1 z1 P1 => ⟨G, r1, fp1, xs, _, E1, e2, fun vs H2 fp2 E2 rc P2 => k (v :: vs) H2 fp2 E2 (.z hio (z1.keep P2.kp) rc) (P1.trans P2)⟩⟩
theorem rc_consIo {io : Option Nat} {n : Nat} {t : E} {s : Nat} {ts : List E} {m : Md} {ms : List Md} {σ : L2.St} {H : Hp} {Q : List V → Hp → Prop} (hio : io = some n) (hs : t.slot? = some s) (h : RdAc K tb io n (t :: ts) (evc io n (t :: ts) (m :: ms)) σ H Q) : tCons (tVar s) (RdAc K tb io (n + 1) ts (evc io (n + 1) ts ms)) σ H Q := by
  obtain ⟨G, r, fp, ds, r', E, q, k⟩ := h
  have q0 : (Out.lift (t.slot?.bind (peek r)) r).bnd (fun d r => (evc io (n + 1) ts ms r).bnd fun ds r => .ok (d :: ds) r) = .ok ds r' := by
    have := q
    simp only [evc, if_pos hio] at this
    exact this
  obtain ⟨x, r1, e1, q1⟩ := bnd_ok.mp q0
  obtain ⟨e3, e4⟩ := lift_ok.mp e1
  subst e4
  rw [hs] at e3
  obtain ⟨xs, r2, e2, q2⟩ := bnd_ok.mp q1
  cases q2
  obtain ⟨v, hσ, ro⟩ := E.rel s x e3
  exact ⟨v, hσ, G, _, fp, xs, _, E, e2, fun vs H2 fp2 E2 rc P2 => k (v :: vs) H2 fp2 E2 (.io hio hs hσ rc) P2⟩
theorem rc_bad {io : Option Nat} {n : Nat} {t : E} {ts : List E} {m : Md} {ms : List Md} {σ : L2.St} {H : Hp} {Q : List V → Hp → Prop} (hio : io = some n) (hs : t.slot? = none) : ¬ RdAc K tb io n (t :: ts) (evc io n (t :: ts) (m :: ms)) σ H Q := fun ⟨G, r, fp, ds, r', E, q, k⟩ => by
  have q0 : (Out.lift (t.slot?.bind (peek r)) r).bnd (fun d r => (evc io (n + 1) ts ms r).bnd fun ds r => .ok (d :: ds) r) = .ok ds r' := by
    have := q
    simp only [evc, if_pos hio] at this
    exact this
  rw [hs] at q0
  cases q0
theorem c_consZ {io : Option Nat} {n : Nat} {e : Expr} {es : List Expr} {t : E} {ts : List E} {m : Md} {ms : List Md} (hio : io ≠ some n) (hn : notStar e = true) (h : PE X e (RdZ X.K tb m.z)) (ht : PA X es (RdAc X.K tb io (n + 1) ts (evc io (n + 1) ts ms))) :
    PA X (e :: es) (RdAc X.K tb io n (t :: ts) (evc io n (t :: ts) (m :: ms))) := mkPA (pa_cons h ht (starE es X.env hn)) fun σ H Q q => rc_consZ hio q
theorem c_consIo {io : Option Nat} {n : Nat} {e : Expr} {es : List Expr} {t : E} {s : Nat} {ts : List E} {m : Md} {ms : List Md} (hio : io = some n) (hs : t.slot? = some s) (hn : notStar e = true) (h : PE X e (tVar s)) (ht : PA X es (RdAc X.K tb io (n + 1) ts (evc io (n + 1) ts ms))) :
    PA X (e :: es) (RdAc X.K tb io n (t :: ts) (evc io n (t :: ts) (m :: ms))) := mkPA (pa_cons h ht (starE es X.env hn)) fun σ H Q q => rc_consIo hio hs q
theorem c_bad {io : Option Nat} {n : Nat} {es : List Expr} {t : E} {ts : List E} {m : Md} {ms : List Md} (hio : io = some n) (hs : t.slot? = none) : PA X es (RdAc X.K tb io n (t :: ts) (evc io n (t :: ts) (m :: ms))) :=
  ⟨fun pos pins s σ H Q I h => absurd h (rc_bad hio hs)⟩
/-! keywords -/
theorem mkPK {kws : List Keyword} {t t' : TA} (h : PK X kws t) (m : ∀ σ H Q, t' σ H Q → t σ H Q) : PK X kws t' := ⟨fun pos pins s σ H Q I q => h.run pos pins s σ H Q I (m σ H Q q)⟩
theorem rc_nil {io : Option Nat} {n : Nat} {σ : L2.St} {H : Hp} {Q : List V → Hp → Prop} (h : RdAc K tb io n [] (evc io n [] []) σ H Q) : tNil σ H Q := by
  obtain ⟨G, r, fp, ds, r', E, q, k⟩ := h
  have q' : Out.ok [] r = Out.ok ds r' := q
  cases q'
  exact k [] H fp E .nil Pres.refl
theorem k_nil {io : Option Nat} {n : Nat} : PK X [] (RdAc X.K tb io n [] (evc io n [] [])) := mkPK pk_nil fun σ H Q h => rc_nil h
theorem k_consZ {io : Option Nat} {n : Nat} {nm : Option Str} {kp : Pos} {e : Expr} {kws : List Keyword} {t : E} {ts : List E} {m : Md} {ms : List Md} (hio : io ≠ some n) (h : PE X e (RdZ X.K tb m.z)) (ht : PK X kws (RdAc X.K tb io (n + 1) ts (evc io (n + 1) ts ms))) :
    PK X (⟨nm, e, kp⟩ :: kws) (RdAc X.K tb io n (t :: ts) (evc io n (t :: ts) (m :: ms))) := mkPK (pk_cons h ht) fun σ H Q q => rc_consZ hio q
theorem k_consIo {io : Option Nat} {n : Nat} {nm : Option Str} {kp : Pos} {e : Expr} {kws : List Keyword} {t : E} {s : Nat} {ts : List E} {m : Md} {ms : List Md} (hio : io = some n) (hs : t.slot? = some s) (h : PE X e (tVar s)) (ht : PK X kws (RdAc X.K tb io (n + 1) ts (evc io (n + 1) ts ms))) :
    PK X (⟨nm, e, kp⟩ :: kws) (RdAc X.K tb io n (t :: ts) (evc io n (t :: ts) (m :: ms))) := mkPK (pk_cons h ht) fun σ H Q q => rc_consIo hio hs q
theorem k_bad {io : Option Nat} {n : Nat} {kws : List Keyword} {t : E} {ts : List E} {m : Md} {ms : List Md} (hio : io = some n) (hs : t.slot? = none) : PK X kws (RdAc X.K tb io n (t :: ts) (evc io n (t :: ts) (m :: ms))) :=
  ⟨fun pos pins s σ H Q I h => absurd h (rc_bad hio hs)⟩
theorem RC.len {O : Addr → Prop} {io : Option Nat} {n : Nat} {es : List E} {ds : List D} {vs : List V} (h : RC K H O io σ n es ds vs) : ds.length = vs.length ∧ es.length = ds.length := by
  induction h with
  | nil => exact ⟨rfl, rfl⟩
  | z a b c ih => simp [ih.1, ih.2]
  | io a b c d ih => simp [ih.1, ih.2]
theorem RC.getZ {O : Addr → Prop} {io : Option Nat} {n : Nat} {es : List E} {ds : List D} {vs : List V} (h : RC K H O io σ n es ds vs) : ∀ {j : Nat} {d : D}, ds[j]? = some d → io ≠ some (n + j) → ∃ v, vs[j]? = some v ∧ RZ K H O d v := by
  induction h with
  | nil => intro j d e; simp at e
  | @z n e es d ds v vs a b c ih =>
    intro j d' e hio
    cases j with
    | zero => have : d = d' := by simpa using e
              subst this; exact ⟨v, rfl, b⟩
    | succ j =>
      obtain ⟨w, h1, h2⟩ := ih (j := j) (by simpa using e) (by rw [show n + 1 + j = n + (j + 1) by omega]; exact hio)
      exact ⟨w, by simpa using h1, h2⟩
  | @io n e es d ds v vs s a b c dd ih =>
    intro j d' e hio
    cases j with
    | zero => exact absurd a hio
    | succ j =>
      obtain ⟨w, h1, h2⟩ := ih (j := j) (by simpa using e) (by rw [show n + 1 + j = n + (j + 1) by omega]; exact hio)
      exact ⟨w, by simpa using h1, h2⟩
theorem RC.getIo {O : Addr → Prop} {io : Option Nat} {n : Nat} {es : List E} {ds : List D} {vs : List V} (h : RC K H O io σ n es ds vs) : ∀ {j s : Nat} {e : E}, es[j]? = some e → e.slot? = some s → io = some (n + j) → ∃ v, vs[j]? = some v ∧ σ[s]? = some (some v) := by
  induction h with
  | nil => intro j s e h; simp at h
  | @z n e es d ds v vs a b c ih =>
    intro j s e' h hs hio
    cases j with
    | zero => exact absurd hio a
    | succ j =>
      obtain ⟨w, h1, h2⟩ := ih (j := j) (by simpa using h) hs (by rw [show n + 1 + j = n + (j + 1) by omega]; exact hio)
      exact ⟨w, by simpa using h1, h2⟩
  | @io n e es d ds v vs s' a b c dd ih =>
    intro j s e' h hs hio
    cases j with
    | zero =>
      have : e = e' := by simpa using h
      subst this
      rw [b] at hs; cases hs
      exact ⟨v, rfl, c⟩
    | succ j =>
      obtain ⟨w, h1, h2⟩ := ih (j := j) (by simpa using h) hs (by rw [show n + 1 + j = n + (j + 1) by omega]; exact hio)
      exact ⟨w, by simpa using h1, h2⟩
theorem peek_map {ds : List D} {i : Nat} : peek (ds.map some) i = ds[i]? := by
  unfold peek
  rw [List.getElem?_map]
  cases ds[i]? <;> rfl
theorem st_map {vs : List V} {i : Nat} : (vs.map some : L2.St)[i]? = (vs[i]?).map some := List.getElem?_map ..
def callM (sg : Option Nat) (C : List D → Out D) (es : List E) (ms : List Md) : Env → Out D := fun r => (evc sg 0 es ms r).bnd fun ds r => match (callArgs sg es r ds).bind (perm sg []) with
  | some ds => (C ds).bnd fun d fin => .ok d (giveBack sg es fin r)
  | none => .bad
/-- behind the arguments: from the caller to the callee and back -/
theorem call_go {sg : Option Nat} {C : List D → Out D} {np : Nat} {es : List E} {ms : List Md} {σ : L2.St} {H : Hp} {Q : VK} (hC : ∀ ds d fin, C ds = .ok d fin → ds.length = np ∧ (∀ j, sg ≠ some j → peek fin j = none)) (h : RdO K tb (callM sg C es ms) σ H Q) :
    tCall (spF K tb np sg C) [] C8.E0 (RdAc K tb sg 0 es (evc sg 0 es ms)) σ H Q := by
  obtain ⟨G, r, fp, d, r', E, q, k⟩ := h
  obtain ⟨ds, r1, e1, q1⟩ := bnd_ok.mp (show (evc sg 0 es ms r).bnd _ = _ from q)
  refine ⟨G, r, fp, ds, r1, E, e1, fun vs H1 fp1 E1 rc P1 => ?_⟩
  show spF K tb np sg C (vs ++ []) H1 Q C8.E0
  rw [List.append_nil]
  cases hca : (callArgs sg es r1 ds).bind (perm sg []) with
  | none => rw [hca] at q1; cases q1
  | some ds1 =>
    rw [hca] at q1
    obtain ⟨dd, fin, e2, q2⟩ := bnd_ok.mp (show (C ds1).bnd _ = _ from q1)
    cases q2
    obtain ⟨hl1, hfin⟩ := hC _ _ _ e2
    have hca' : callArgs sg es r1 ds = some ds1 := by
      obtain ⟨x, hx, hy⟩ := Option.bind_eq_some_iff.mp hca
      have hy' : some x = some ds1 := hy
      cases hy'
      exact hx
    have gokO : ∀ a, Own G fp1 a → ∃ o, H1 a = some o ∧ ∀ q, o ≠ .tbl q := fun a z => by
      rcases z with z | ⟨i, z⟩
      · exact E1.gok a z
      · cases hp : peek r1 i with
        | none => rw [E1.emp i hp] at z; simp at z
        | some d0 =>
          obtain ⟨v0, _, ro⟩ := E1.rel i d0 hp
          exact ro.mem a z
    cases sg with
    | none =>
      have : ds = ds1 := by simpa [callArgs] using hca'
      subst this
      refine ⟨by rw [← rc.len.1]; exact hl1, Own G fp1, ds, fun _ => [], d, fin, ?_, e2, fun _ _ => rfl, fun v H2 fp2 f E2 hG2 ro2 P2 nw2 => ?_⟩
      · refine ⟨by simp [rc.len.1], fun i d0 h => ?_, fun _ _ => rfl, fun i j a _ h => by simp at h, fun i a h => by simp at h, gokO, E1.tab⟩
        rw [peek_map] at h
        obtain ⟨v0, h1, h2⟩ := rc.getZ h (fun z => nomatch z)
        refine ⟨v0, by rw [st_map, h1]; rfl, .z (h2.keep (keep_self fun a z => ?_))⟩
        rcases z with z | ⟨i, z⟩
        · exact z
        · simp at z
      · have f2 : ∀ i, fp2 i = [] := fun i => E2.emp i (hfin i fun z => nomatch z)
        have ob : ∀ a o, H1 a = some o → (∀ q, o ≠ .tbl q) → H2 a = some o := fun a o e t => (P2.obj a o e (fun i z => by simp at z) t).1
        have fno : ∀ a ∈ f, H1 a = none := fun a ha => by
          cases h : H1 a with
          | none => rfl
          | some o => obtain ⟨i, hi⟩ := nw2 a ha o h; simp at hi
        have kp : Keep H1 H2 (Own G fp1) (Own (fun a => G a ∨ a ∈ f) fp1) := ⟨fun a o e n t => ⟨ob a o e t, fun z => by
          rcases z with (z | z) | z
          · exact n (.inl z)
          · rw [fno a z] at e; cases e
          · exact n (.inr z)⟩, P2.frz⟩
        have E3 : EnvR K tb H2 (fun a => G a ∨ a ∈ f) r1 σ fp1 := by
          refine ⟨E1.len, fun i d0 h => ?_, E1.emp, E1.dis, fun i a h z => z.elim (E1.out i a h) fun z => hG2 a z (.inr ⟨i, h⟩), fun a h => E2.gok a (h.elim (fun z => .inl (.inl z)) .inr), E2.tab⟩
          obtain ⟨v0, h1, h2⟩ := E1.rel i d0 h
          refine ⟨v0, h1, h2.keep kp fun a ha => ?_⟩
          obtain ⟨o, ho, t⟩ := h2.mem a ha
          rw [ho]; exact ob a o ho t
        have P3 : Pres H1 fp1 H2 fp1 := ⟨fun a o e n t => ⟨ob a o e t, n⟩, P2.frz, P2.tbl⟩
        refine k v H2 fp1 f E3 (fun a ha z => hG2 a ha (.inl z)) (ro2.keep (keep_self fun a z => ?_) fun _ _ => rfl) (P1.trans P3) (nw_trans P1 P3 (fun a ha => E3.gok a (.inr ha)) fun a ha o ho => by rw [fno a ha] at ho; cases ho)
        rcases z with (z | z) | z
        · exact .inl (.inl (.inl z))
        · exact .inl (.inr z)
        · exact .inl (.inl (.inr z))
    | some j =>
      have hca2 : ((es[j]?).bind Sf.E.slot?).bind (fun s => (peek r1 s).map fun d => ds.set j d) = some ds1 := hca'
      obtain ⟨s, hs, hp⟩ := Option.bind_eq_some_iff.mp hca2
      obtain ⟨e, he, hes⟩ := Option.bind_eq_some_iff.mp hs
      obtain ⟨dj, hdj, rfl⟩ := Option.map_eq_some_iff.mp hp
      obtain ⟨vj, hvj, hσj⟩ := rc.getIo he hes (by simp)
      obtain ⟨vj', hσj', roj⟩ := E1.rel s dj hdj
      rw [hσj] at hσj'; cases hσj'
      have hjl : j < ds.length := by
        rw [rc.len.1]; exact (List.getElem?_eq_some_iff.mp hvj).1
      have hsr : s < r1.length := peek_lt hdj
      have gb : giveBack (some j) es fin r1 = r1.set s (peek fin j) := by
        unfold giveBack
        simp only [he, Option.bind_some, hes, peek]
      rw [gb] at k
      refine ⟨by rw [← rc.len.1]; rw [List.length_set] at hl1; exact hl1, (fun a => G a ∨ ∃ i, i ≠ s ∧ a ∈ fp1 i), ds.set j dj, setF (fun _ => []) j (fp1 s), d, fin, ?_, e2, fun i hi => setF_ne fun z => hi (by rw [z]), fun v H2 fp2 f E2 hG2 ro2 P2 nw2 => ?_⟩
      · have memJ : ∀ {i : Nat} {a : Addr}, a ∈ setF (fun _ => []) j (fp1 s) i → i = j ∧ a ∈ fp1 s := fun {i a} z => by
          rcases setF_mem z with z | ⟨_, z⟩
          · exact z
          · simp at z
        have sub : ∀ a, Own (fun a => G a ∨ ∃ i, i ≠ s ∧ a ∈ fp1 i) (setF (fun _ => []) j (fp1 s)) a → Own G fp1 a := fun a z => by
          rcases z with (z | ⟨i, _, z⟩) | ⟨i, z⟩
          · exact .inl z
          · exact .inr ⟨i, z⟩
          · exact .inr ⟨s, (memJ z).2⟩
        refine ⟨by simp [rc.len.1], fun i d0 h => ?_, fun i h => ?_, fun i l a hil h1 h2 => ?_, fun i a h z => ?_, fun a z => gokO a ?_, E1.tab⟩
        · rw [peek_map] at h
          by_cases q : i = j
          · subst q
            rw [List.getElem?_set_self hjl] at h
            cases h
            exact ⟨vj, by rw [st_map, hvj]; rfl, by rw [setF_eq]; exact roj.keep (keep_self sub) fun _ _ => rfl⟩
          · rw [List.getElem?_set_ne (Ne.symm q)] at h
            obtain ⟨v0, h1, h2⟩ := rc.getZ h (fun z => q (by have := Option.some.inj z; omega))
            exact ⟨v0, by rw [st_map, h1]; rfl, by rw [setF_ne q]; exact .z (h2.keep (keep_self sub))⟩
        · refine setF_ne fun q => ?_
          subst q
          rw [peek_map, List.getElem?_set_self hjl] at h
          cases h
        · exact hil ((memJ h1).1.trans (memJ h2).1.symm)
        · rcases z with z | ⟨l, hl, z⟩
          · exact E1.out s a (memJ h).2 z
          · exact E1.dis s l a (Ne.symm hl) (memJ h).2 z
        · rcases z with z | ⟨i, _, z⟩
          · exact .inl z
          · exact .inr ⟨i, z⟩
      · have f2 : ∀ i, i ≠ j → fp2 i = [] := fun i hi => E2.emp i (hfin i fun z => hi (Option.some.inj z).symm)
        have ob : ∀ a o, H1 a = some o → a ∉ fp1 s → (∀ q, o ≠ .tbl q) → H2 a = some o ∧ ∀ i, a ∉ fp2 i := fun a o e n t => P2.obj a o e (fun i z => by
          rcases setF_mem z with ⟨_, z⟩ | ⟨_, z⟩
          · exact n z
          · simp at z) t
        have subO : ∀ a, Own (fun a => G a ∨ a ∈ f) (setF fp1 s (fp2 j)) a → Own (fun a => (G a ∨ ∃ i, i ≠ s ∧ a ∈ fp1 i) ∨ a ∈ f) fp2 a := fun a z => by
          rcases z with (z | z) | ⟨i, z⟩
          · exact .inl (.inl (.inl z))
          · exact .inl (.inr z)
          · rcases setF_mem z with ⟨_, z⟩ | ⟨h1, z⟩
            · exact .inr ⟨j, z⟩
            · exact .inl (.inl (.inr ⟨i, h1, z⟩))
        have fno : ∀ a ∈ f, ∀ o, H1 a = some o → a ∈ fp1 s := fun a ha o ho => by
          obtain ⟨i, hi⟩ := nw2 a ha o ho
          rcases setF_mem hi with ⟨_, z⟩ | ⟨_, z⟩
          · exact z
          · simp at z
        have kp : Keep H1 H2 (Own G fp1) (Own (fun a => G a ∨ a ∈ f) (setF fp1 s (fp2 j))) := ⟨fun a o e n t => by
          obtain ⟨h1, h2⟩ := ob a o e (fun z => n (.inr ⟨s, z⟩)) t
          refine ⟨h1, fun z => ?_⟩
          rcases z with (z | z) | ⟨i, z⟩
          · exact n (.inl z)
          · exact n (.inr ⟨s, fno a z o e⟩)
          · rcases setF_mem z with ⟨_, z⟩ | ⟨_, z⟩
            · exact h2 j z
            · exact n (.inr ⟨i, z⟩), P2.frz⟩
        have E3 : EnvR K tb H2 (fun a => G a ∨ a ∈ f) (r1.set s (peek fin j)) σ (setF fp1 s (fp2 j)) := by
          refine ⟨by rw [List.length_set]; exact E1.len, fun i d0 h => ?_, fun i h => ?_, fun i l a hil h1 h2 => ?_, fun i a h z => ?_, fun a h => E2.gok a (h.elim (fun z => .inl (.inl z)) .inr), E2.tab⟩
          · rw [peek_set hsr] at h
            by_cases q : i = s
            · subst q
              rw [if_pos rfl] at h
              obtain ⟨v0, h1, h2⟩ := E2.rel j d0 h
              rw [st_map, hvj] at h1
              cases h1
              refine ⟨vj, hσj, ?_⟩
              rw [setF_eq]
              exact h2.keep (keep_self subO) fun _ _ => rfl
            · rw [if_neg q] at h
              obtain ⟨v0, h1, h2⟩ := E1.rel i d0 h
              refine ⟨v0, h1, ?_⟩
              rw [setF_ne q]
              refine h2.keep kp fun a ha => ?_
              obtain ⟨o, ho, t⟩ := h2.mem a ha
              rw [ho]
              exact (ob a o ho (E1.dis i s a q ha) t).1
          · rw [peek_set hsr] at h
            by_cases q : i = s
            · subst q
              rw [if_pos rfl] at h
              rw [setF_eq]; exact E2.emp j h
            · rw [if_neg q] at h
              rw [setF_ne q]; exact E1.emp i h
          · rcases setF_mem h1 with ⟨q1, z1⟩ | ⟨q1, z1⟩
            · rcases setF_mem h2 with ⟨q2, z2⟩ | ⟨q2, z2⟩
              · exact hil (q1.trans q2.symm)
              · exact E2.out j a z1 (.inl (.inr ⟨l, q2, z2⟩))
            · rcases setF_mem h2 with ⟨q2, z2⟩ | ⟨q2, z2⟩
              · exact E2.out j a z2 (.inl (.inr ⟨i, q1, z1⟩))
              · exact E1.dis i l a hil z1 z2
          · rcases setF_mem h with ⟨q1, z1⟩ | ⟨q1, z1⟩
            · exact E2.out j a z1 (z.elim (fun z => .inl (.inl z)) .inr)
            · exact z.elim (E1.out i a z1) fun z => hG2 a z (.inr ⟨i, q1, z1⟩)
        have P3 : Pres H1 fp1 H2 (setF fp1 s (fp2 j)) := ⟨fun a o e n t => by
          obtain ⟨h1, h2⟩ := ob a o e (n s) t
          refine ⟨h1, fun i z => ?_⟩
          rcases setF_mem z with ⟨_, z⟩ | ⟨_, z⟩
          · exact h2 j z
          · exact n i z, P2.frz, P2.tbl⟩
        exact k v H2 _ f E3 (fun a ha z => hG2 a ha (.inl z)) (ro2.keep (keep_self subO) fun _ _ => rfl) (P1.trans P3) (nw_trans P1 P3 (fun a ha => E3.gok a (.inr ha)) fun a ha o ho => ⟨s, fno a ha o ho⟩)
/-- keywords alone -/
def kwG : List Value → List Value → List Value
  | [], ws => ws
  | _ :: _, _ => []
def kwV : List V → List V → List V
  | [], ws => ws
  | _ :: _, _ => []
/-- a call by keywords, in the parameters' order -/
theorem pe_callK0 {k : Nat} {f : Addr} {fd : FuncData} {ps : List Str} {sp : Sp} {x : Str} {p pos : Pos} {kws : List Keyword} {tk : TA} (F : FnOk X.prog X.w X.K X.mg X.base C8.CX0 k f fd ps sp) (hr : Room k X.A) (hg : Gl X x) (hm : X.mg x = some (.ref f)) (hk : PySem.W.keepIn X.K (.ref f) = true)
    (hb : KBinds X.K fd ps ps kwG kwV) (hkw : PK X kws tk) (hall : (backToKw pos (keywordEach kws X.env)).all (·.1.isSome) = true) (hks : (backToKw pos (keywordEach kws X.env)).filterMap (·.1) = ps)
    (hdb : (x == ("__debug__" : Str)) = false) (hpl : ((backTo pos (starEach [] X.env)).any (·.1) || (backToKw pos (keywordEach kws X.env)).any (·.1.isNone)) = false) :
    PE X (.Call (.Name x p) [] kws pos) (tCall sp [] C8.E0 tk) := by
  refine ⟨fun pins s σ H Q I h => ?_⟩
  refine wpAny_Call_Name_kw (ld_glob I hg hm ?_ hdb)
  refine PySem.W.callWith_KW0 (h₀ := X.base) I.ok.mod.kin hk hall ?_ hpl
  refine thn (hkw.run pos pins s σ H _ I h) fun ws s2 ⟨zs, H2, I2, rz, q2⟩ => ⟨I2.kIn, ?_⟩
  rw [hks]
  have q2' : sp zs H2 Q C8.E0 := by simpa using q2
  exact run_fnk (us := []) (vs := []) F hr hb C8.pass0 I2 .nil rz q2'
theorem kw_each : ∀ {kws : List Keyword} {ks : List Str} (env : PySem.Env) (pos : Pos), kwNames kws = some ks → (backToKw pos (keywordEach kws env)).all (·.1.isSome) = true ∧ (backToKw pos (keywordEach kws env)).filterMap (·.1) = ks ∧ (backToKw pos (keywordEach kws env)).any (·.1.isNone) = false
  | [], ks, env, pos, h => by cases h; exact ⟨rfl, rfl, rfl⟩
  | ⟨none, e, p⟩ :: kws, ks, env, pos, h => by cases h
  | ⟨some x, e, p⟩ :: kws, ks, env, pos, h => by
    have h' : (kwNames kws).map (x :: ·) = some ks := h
    obtain ⟨ks', hk, rfl⟩ := Option.map_eq_some_iff.mp h'
    obtain ⟨h1, h2, h3⟩ := kw_each env pos hk
    refine ⟨?_, ?_, ?_⟩
    · show (true && (backToKw pos (keywordEach kws env)).all (·.1.isSome)) = true
      rw [h1]; rfl
    · show x :: (backToKw pos (keywordEach kws env)).filterMap (·.1) = x :: ks'
      rw [h2]
    · show (false || (backToKw pos (keywordEach kws env)).any (·.1.isNone)) = false
      rw [h3]; rfl
end
end Sf
end
section
set_option Elab.async false
set_option maxRecDepth 100000
set_option linter.all false
/-! SfSnd: every expression that is served reads as the evaluator runs it. -/
namespace Sf
open PySem PySem.Spec PyProof.Rows L2

/-- what stands where the text runs -/
structure XOk (tb : List Addr) (X : Cx) (I : Inf) (sg : Sig) (C : Calls) : Prop where
  N : X.N = I.N
  nd : X.N.Nodup
  sc : X.env.scope = I.sc
  calm : X.calm = true
  cw : I.cw = true → ∀ x, X.fn x = true
  kind : X.env.scope.kind = .function
  xe : X.xe = fun _ _ => False
  units : X.A.units + 64 < cLine
  mg : ∀ x ∈ bltN, X.mg x = none
  defs : ∀ k x, I.fs[k]? = some x → ∃ j np, Room j X.A ∧ C8.Cal X.prog X.w X.K X.mg X.base j x (spF X.K tb np (sg k) (C k)) [] ∧ (∀ ds d fin, C k ds = .ok d fin → ds.length = np ∧ ∀ j, sg k ≠ some j → peek fin j = none)
  kws : ∀ k x ps, I.fs[k]? = some x → I.prm[k]? = some ps → k ∈ I.kwk → ∃ j np f fd, Room j X.A ∧ FnOk X.prog X.w X.K X.mg X.base C8.CX0 j f fd ps (spF X.K tb np (sg k) (C k)) ∧ X.mg x = some (.ref f) ∧ PySem.W.keepIn X.K (.ref f) = true ∧
    KBinds X.K fd ps ps kwG kwV ∧ (∀ ds d fin, C k ds = .ok d fin → ds.length = np ∧ ∀ j, sg k ≠ some j → peek fin j = none)
  gen : I.gen = true → ∃ c P j, Room j X.A ∧ GxR.TabB X.base X.mg c P ∧ X.env.code = .ref c ∧ P ∈ tb
structure Snd (tb : List Addr) (X : Cx) (sg : Sig) (C : Calls) (e : Expr) (t : E) : Prop where
  o : PE X e (RdO X.K tb (ev3 sg C t).v)
  p : PE X e (RdP X.K tb ((ev3 sg C t).p t.slot?))
  x : t.simple = true → PE X e (RdX X.K tb ((ev3 sg C t).p t.slot?))
  tt : PT X e (RdT X.K tb (ev3 sg C t).t)
  i : ∀ tg, (t.pairs = true → isTup tg = true) → PI X tg e (RdI X.K tb (ev3 sg C t).i)
  v : ∀ s, t.slot? = some s → PE X e (tVar s)
  w : ∀ op vs pos, e = .BoolOp op vs pos → PW X e (RdT X.K tb (ev3 sg C t).t)

section
variable {tb : List Addr} {X : Cx} {I : Inf} {sg : Sig} {C : Calls}
theorem Snd.z {e : Expr} {t : E} (h : Snd tb X sg C e t) : PE X e (RdZ X.K tb (ev3 sg C t).z) := toZ h.o
theorem OtoP {e : Expr} {m : Env → Out D} (h : PE X e (RdO X.K tb m)) : PE X e (RdP X.K tb m) := by
  refine mkPE h fun σ H Q ⟨G, r, fp, d, r', E, q, k⟩ => ?_
  exact ⟨G, r, fp, d, r', E, q, fun v H' fp' f E' hG ro P nw => k v H' fp' f E'.ofNil' (ro.keep (keep_self fun a z => z.elim (fun z => .inl (.inl z)) .inr) fun _ _ => rfl) P⟩
theorem frz_frz (d : D) : d.frz.frz = d.frz := by cases d <;> rfl
theorem bnd_frz_i (v : Env → Out D) : (fun r => ((v r).bnd fun d r => .ok d.frz r).bnd fun x r => .lift (iteq x.frz) r) = fun r => (v r).bnd fun x r => .lift (iteq x.frz) r := by
  funext r
  cases v r with
  | ok a r1 => show Out.lift (iteq a.frz.frz) r1 = Out.lift (iteq a.frz) r1; rw [frz_frz]
  | exn => rfl
  | bad => rfl
/-- a form of a plain run -/
theorem Snd.plain {e : Expr} {t : E} {v : Env → Out D} (hm : ev3 sg C t = Md.mk' v) (hs : t.slot? = none) (hb : ∀ op vs pos, e ≠ .BoolOp op vs pos) (he : ∀ whole, isTrue e X.env whole = (do let v ← whole; standAt e.pos; holding [v] (truthy v)))
    (o : PE X e (RdO X.K tb v)) (x : t.simple = true → PE X e (RdX X.K tb fun r => (v r).bnd fun d r => .ok d.frz r)) : Snd tb X sg C e t := by
  refine ⟨by rw [hm]; exact o, by rw [hm, hs]; exact ZtoP (toZ o), fun h => by rw [hm, hs]; exact x h, by rw [hm]; exact s_truth (OtoP o) he, fun tg _ => ?_, fun s h => (by rw [hs] at h; cases h), fun op vs pos h => absurd h (hb op vs pos)⟩
  rw [hm]
  show PI X tg e (RdI X.K tb fun r => (v r).bnd fun x r => .lift (iteq x.frz) r)
  rw [← bnd_frz_i]
  exact s_walk (toZ o)
/-- .. whose test is read on its own -/
theorem Snd.plainT {e : Expr} {t : E} {v : Env → Out D} (hm : ev3 sg C t = Md.mk' v) (hs : t.slot? = none) (hp : t.simple = false) (hb : ∀ op vs pos, e ≠ .BoolOp op vs pos) (o : PE X e (RdO X.K tb v)) (ht : PT X e (RdT X.K tb fun r => (v r).bnd fun d r => .lift (tru d) r)) : Snd tb X sg C e t := by
  refine ⟨by rw [hm]; exact o, by rw [hm, hs]; exact ZtoP (toZ o), fun h => (by rw [hp] at h; cases h), by rw [hm]; exact ht, fun tg _ => ?_, fun s h => (by rw [hs] at h; cases h), fun op vs pos h => absurd h (hb op vs pos)⟩
  rw [hm]
  show PI X tg e (RdI X.K tb fun r => (v r).bnd fun x r => .lift (iteq x.frz) r)
  rw [← bnd_frz_i]
  exact s_walk (toZ o)
theorem neverX {e : Expr} : PE X e (RdX X.K tb fun _ => .bad) := ⟨fun _ _ _ _ _ _ ⟨_, _, _, _, _, h, _⟩ => nomatch h⟩
theorem neverP {e : Expr} : PE X e (RdP X.K tb fun _ => .bad) := ⟨fun _ _ _ _ _ _ ⟨_, _, _, _, _, _, h, _⟩ => nomatch h⟩
theorem neverA {es : List Expr} : PA X es (RdA X.K tb fun _ => .bad) := ⟨fun _ _ _ _ _ _ _ ⟨_, _, _, _, _, _, h, _⟩ => nomatch h⟩
theorem neverW {e : Expr} : PW X e (RdT X.K tb fun _ => .bad) := ⟨fun _ _ _ _ _ _ _ ⟨_, _, _, _, _, _, h, _⟩ => nomatch h⟩
theorem Snd.bad {e : Expr} : Snd tb X sg C e .bad := ⟨never, neverP, (fun h => nomatch h), neverT, fun _ _ => neverI, (fun _ h => by cases h), fun _ _ _ _ => neverW⟩
/-- walked only -/
theorem Snd.walk {e : Expr} {t : E} {i : Env → Out (List D)} (hm : ev3 sg C t = Md.it i) (hs : t.slot? = none) (hp : t.simple = false) (hi : ∀ tg, (t.pairs = true → isTup tg = true) → PI X tg e (RdI X.K tb i)) : Snd tb X sg C e t :=
  ⟨by rw [hm]; exact never, by rw [hm, hs]; exact neverP, fun h => (by rw [hp] at h; cases h), by rw [hm]; exact neverT, fun tg h => by rw [hm]; exact hi tg h, fun s h => (by rw [hs] at h; cases h), fun op vs pos h => by rw [hm]; exact neverW⟩

/-! ### names, what they mean -/
theorem nameOk_is {x : Str} (h : nameOk x = true) : (x == ("__debug__" : Str)) = false ∧ (x == ("__classdict__" : Str)) = false ∧ x ≠ "__name__" := by
  unfold nameOk at h
  simp only [Bool.and_eq_true, Bool.not_eq_true', decide_eq_false_iff_not] at h
  exact ⟨by simpa using h.1.1, by simpa using h.1.2, h.2⟩
theorem var_is (hx : XOk tb X I sg C) {x : Str} {i : Nat} (h : I.var x = some i) : X.N[i]? = some x ∧ Vis X.env.scope x ∧ (x == ("__debug__" : Str)) = false ∧ (x == ("__classdict__" : Str)) = false := by
  unfold Inf.var at h
  by_cases hn : nameOk x = true
  · rw [if_pos hn] at h
    obtain ⟨h1, h2, _⟩ := nameOk_is hn
    rw [hx.N, hx.sc]
    split at h
    · rename_i e; exact ⟨ixOf_get h, .inl e, h1, h2⟩
    · rename_i e; exact ⟨ixOf_get h, .inr (.inl e), h1, h2⟩
    · rename_i e; exact ⟨ixOf_get h, .inr (.inr e), h1, h2⟩
    · cases h
  · rw [if_neg hn] at h; cases h
theorem tgt_is (hx : XOk tb X I sg C) {x : Str} {i : Nat} (h : I.tgt x = some i) : X.N[i]? = some x ∧ Loc X.env.scope x ∧ (X.fn x = true ∨ X.env.scope.names.lookup x = some .local) ∧ I.io ≠ some i := by
  unfold Inf.tgt at h
  by_cases hn : nameOk x = true
  · rw [if_pos hn] at h
    rw [hx.N, hx.sc]
    split at h
    · rename_i e
      obtain ⟨j, hj, h⟩ := Option.bind_eq_some_iff.mp h
      split at h
      · cases h
      · rename_i hio; cases h; exact ⟨ixOf_get hj, .inl e, .inr e, hio⟩
    · rename_i e
      split at h
      · rename_i hc
        obtain ⟨j, hj, h⟩ := Option.bind_eq_some_iff.mp h
        split at h
        · cases h
        · rename_i hio; cases h; exact ⟨ixOf_get hj, .inr e, .inl (hx.cw hc x), hio⟩
      · cases h
    · cases h
  · rw [if_neg hn] at h; cases h
theorem glb_is (hx : XOk tb X I sg C) {x : Str} (h : I.glb x = true) : Gl X x ∧ (x == ("__debug__" : Str)) = false ∧ x ≠ "__name__" := by
  unfold Inf.glb at h
  simp only [Bool.and_eq_true] at h
  obtain ⟨h1, h2⟩ := h
  obtain ⟨h3, _, h4⟩ := nameOk_is h1
  refine ⟨?_, h3, h4⟩
  show X.env.scope.names.lookup x = _
  rw [hx.sc]
  split at h2
  · assumption
  · cases h2
theorem snd_var (hx : XOk tb X I sg C) {x : Str} {pos : Pos} {i : Nat} (h : I.var x = some i) : Snd tb X sg C (.Name x pos) (.var i) := by
  obtain ⟨h1, h2, h3, h4⟩ := var_is hx h
  have o := s_var (tb := tb) (pos := pos) h1 h2 h3 h4
  refine ⟨o, XtoP (s_varX h1 h2 h3 h4) fun r d r' q => (lift_ok.mp q).2, fun _ => s_varX h1 h2 h3 h4, ?_, fun tg _ => ?_, fun s hs => ?_, (fun _ _ _ h => nomatch h)⟩
  · have q := s_truth (XtoP (s_varX (tb := tb) (pos := pos) h1 h2 h3 h4) fun r d r' q => (lift_ok.mp q).2) (fun _ => rfl)
    have e : (fun r => (Out.lift (peek r i) r).bnd fun d r => Out.lift (tru d) r) = fun r => Out.lift ((peek r i).bind tru) r := by
      funext r
      cases peek r i <;> rfl
    rw [e] at q
    exact q
  · show PI X tg _ (RdI X.K tb fun r => (varV i r).bnd fun x r => .lift (iteq x.frz) r)
    rw [← bnd_frz_i]
    exact s_walk (toZ o)
  · cases hs
    exact pe_var h1 h2 h3 h4
theorem simple_same {t : E} (h : t.simple = true) : ∀ r d r', (ev3 sg C t).p t.slot? r = .ok d r' → r' = r := by
  intro r d r' q
  cases t <;> first
    | (cases h; done)
    | exact (lift_ok.mp q).2
    | (cases q; rfl)

/-! ### lists of arguments -/
theorem nstar {e : Expr} (h : isStar e = false) : notStar e = true := by cases e <;> first | rfl | (cases h; done)
theorem snd_A {f : Expr → E} (hf : ∀ e, Snd tb X sg C e (f e)) : ∀ {es : List Expr}, es.any isStar = false → PA X es (RdA X.K tb (evz (ev3s sg C (es.map f))))
  | [], _ => a_nil
  | e :: es, h => by
    simp only [List.any_cons, Bool.or_eq_false_iff] at h
    exact a_cons (nstar h.1) (hf e).z (snd_A hf h.2)
theorem snd_Ao {f : Expr → E} (hf : ∀ e, Snd tb X sg C e (f e)) : ∀ {es : List Expr}, es.any isStar = false → PA X es (RdAo X.K tb (evs (ev3s sg C (es.map f))))
  | [], _ => ao_nil
  | e :: es, h => by
    simp only [List.any_cons, Bool.or_eq_false_iff] at h
    exact ao_cons (nstar h.1) (hf e).o (snd_Ao hf h.2)
theorem snd_Ac {f : Expr → E} {io : Option Nat} (hf : ∀ e, Snd tb X sg C e (f e)) : ∀ {es : List Expr} {n : Nat}, es.any isStar = false → PA X es (RdAc X.K tb io n (es.map f) (evc io n (es.map f) (ev3s sg C (es.map f))))
  | [], _, _ => c_nil
  | e :: es, n, h => by
    simp only [List.any_cons, Bool.or_eq_false_iff] at h
    by_cases hio : io = some n
    · cases hs : (f e).slot? with
      | none => exact c_bad hio hs
      | some s => exact c_consIo hio hs (nstar h.1) ((hf e).v s hs) (snd_Ac hf h.2)
    · exact c_consZ hio (nstar h.1) (hf e).z (snd_Ac hf h.2)
theorem snd_Kc {f : Expr → E} {io : Option Nat} (hf : ∀ e, Snd tb X sg C e (f e)) : ∀ {kws : List Keyword} {n : Nat}, PK X kws (RdAc X.K tb io n (kws.map fun w => f w.value) (evc io n (kws.map fun w => f w.value) (ev3s sg C (kws.map fun w => f w.value))))
  | [], _ => k_nil
  | ⟨nm, e, p⟩ :: kws, n => by
    by_cases hio : io = some n
    · cases hs : (f e).slot? with
      | none => exact k_bad hio hs
      | some s => exact k_consIo hio hs ((hf e).v s hs) (snd_Kc hf)
    · exact k_consZ hio (hf e).z (snd_Kc hf)
/-! ### calls -/
theorem snd_def (hx : XOk tb X I sg C) {f : Expr → E} (hf : ∀ e, Snd tb X sg C e (f e)) {x : Str} {k : Nat} {p pos : Pos} {args : List Expr} {kws : List Keyword} (hg : I.glb x = true) (hk : ixOf x I.fs = some k) : Snd tb X sg C (.Call (.Name x p) args kws pos) (erDef f I k args kws) := by
  obtain ⟨g1, g2, g3⟩ := glb_is hx hg
  unfold erDef
  split
  · rename_i a as
    split
    · exact Snd.bad
    · rename_i hst
      have hst' : (a :: as).any isStar = false := by simpa using hst
      obtain ⟨j, np, hr, cal, hC⟩ := hx.defs k x (ixOf_get hk)
      have hs2 : isStar a = false ∧ as.any isStar = false := by simpa [List.any_cons] using hst'
      have hsp : (backTo pos (starEach as X.env)).any (·.1) = false := by
        have go : ∀ {es : List Expr}, es.any isStar = false → (backTo pos (starEach es X.env)).any (·.1) = false := fun {es} => by
          induction es with
          | nil => intro _; rfl
          | cons b bs ih =>
            intro h
            simp only [List.any_cons, Bool.or_eq_false_iff] at h
            rw [starE bs X.env (nstar h.1)]
            exact ih h.2
        exact go hs2.2
      refine Snd.plain (v := callM (sg k) (C k) ((a :: as).map f) (ev3s sg C ((a :: as).map f))) rfl rfl (fun _ _ _ h => nomatch h) (fun _ => rfl) ?_ (fun h => nomatch h)
      exact mkPE (C8.pe_c cal hr (Nat.le_refl _) g1 (snd_Ac hf hst') g2 (starE as X.env (nstar hs2.1)) hsp) fun σ H Q h => call_go hC h
  · split
    · rename_i ps hps
      split
      · rename_i hc
        simp only [Bool.and_eq_true, decide_eq_true_eq] at hc
        obtain ⟨hkk, hnm⟩ := hc
        obtain ⟨j, np, fa, fd, hr, F, hm, hkp, hb, hC⟩ := hx.kws k x ps (ixOf_get hk) hps hkk
        obtain ⟨w1, w2, w3⟩ := kw_each X.env pos hnm
        refine Snd.plain (v := callM (sg k) (C k) (kws.map fun w => f w.value) (ev3s sg C (kws.map fun w => f w.value))) rfl rfl (fun _ _ _ h => nomatch h) (fun _ => rfl) ?_ (fun h => nomatch h)
        exact mkPE (pe_callK0 F hr g1 hm hkp hb (snd_Kc hf) w1 w2 g2 (by rw [w3]; rfl)) fun σ H Q h => call_go hC h
      · exact Snd.bad
    · exact Snd.bad
  · exact Snd.bad
end
end Sf
end
section
set_option Elab.async false
set_option maxRecDepth 100000
set_option linter.all false
/-! SfSnd2: built-ins, methods, comprehensions; all expressions. -/
namespace Sf
open PySem PySem.Spec PyProof.Rows L2

section
variable {tb : List Addr} {X : Cx} {I : Inf} {sg : Sig} {C : Calls}
theorem bi_in {x : Str} {b : Bi} (h : biOf x = some b) : x ∈ bltN := by
  unfold biOf at h
  repeat' split at h
  all_goals first
    | (cases h; done)
    | (rename_i q; subst q; unfold bltN; simp)
theorem bi2_in {x : Str} {b : Bi2} (h : bi2Of x = some b) : x ∈ bltN := by
  unfold bi2Of at h
  repeat' split at h
  all_goals first
    | (cases h; done)
    | (rename_i q; subst q; unfold bltN; simp)
theorem ty_in {x : Str} {b : Ty} (h : tyOf x = some b) : x ∈ bltN := by
  unfold tyOf at h
  repeat' split at h
  all_goals first
    | (cases h; done)
    | (rename_i q; subst q; unfold bltN; simp)
theorem fsi {it : Expr} (h : isSet it = false) (env : PySem.Env) : ∀ x, foldedSetIterable it env x = pure x := by
  intro x
  cases it <;> first | rfl | (cases h; done)
theorem gfi {it : Expr} (h : isSet it = false) (h2 : erGen.isListE it = false) (env : PySem.Env) : ∀ x, genFold it env x = pure x := by
  intro x
  cases it <;> first | rfl | (cases h; done) | (cases h2; done)
theorem boot_all' : bootBuiltins "all" = some (.builtin "all") := by decide +kernel
theorem snd_gen (hx : XOk tb X I sg C) {f : Expr → E} (hf : ∀ e, Snd tb X sg C e (f e)) {x : Str} {p pos : Pos} {a : Expr} {al : Bool} (hg : I.glb x = true) (he : x = if al then "all" else "any") : Snd tb X sg C (.Call (.Name x p) [a] [] pos) (erGen f I al a) := by
  obtain ⟨g1, g2, g3⟩ := glb_is hx hg
  unfold erGen
  split
  · split
    · rename_i i hi
      split
      · rename_i hc
        simp only [Bool.and_eq_true, decide_eq_true_eq, Bool.not_eq_true'] at hc
        obtain ⟨⟨⟨rfl, hgen⟩, hns⟩, hnl⟩ := hc
        unfold genOk at hgen
        simp only [Bool.and_eq_true, decide_eq_true_eq, Bool.not_eq_true', List.all_eq_true, Bool.or_eq_true, decide_eq_false_iff_not] at hgen
        obtain ⟨⟨⟨⟨⟨⟨⟨⟨⟨⟨q1, q2⟩, q3⟩, q4⟩, q5⟩, q6⟩, q7⟩, q8⟩, q9⟩, q10⟩, q11⟩ := hgen
        obtain ⟨c, P, j, hr, TB, hcode, hP⟩ := hx.gen q11
        have S : GenL X.env _ _ _ := ⟨q1, q2, q3, q4, q5, q6, fun y hy e => (q7 y hy).resolve_left fun z => z e, by rw [hx.sc]; exact q8, (nameOk_is q9).1, (nameOk_is q10).1, (nameOk_is q10).2.1⟩
        have hL := ixOf_get hi
        rw [← hx.N] at hL
        cases al with
        | false =>
          have e2 : x = "any" := he
          subst e2
          exact Snd.plain rfl rfl (fun _ _ _ h => nomatch h) (fun _ => rfl) (mkPE (pe_anyB hr g1 (hx.mg _ (by unfold bltN; simp)) TB hcode S hL (hf _).z (gfi hns hnl X.env)) fun σ H Q h => genB hP h) (fun h => nomatch h)
        | true =>
          have e2 : x = "all" := he
          subst e2
          exact Snd.plain rfl rfl (fun _ _ _ h => nomatch h) (fun _ => rfl) (mkPE (pe_allB hr g1 (hx.mg _ (by unfold bltN; simp)) TB hcode S hL (hf _).z (gfi hns hnl X.env) boot_all') fun σ H Q h => genB hP h) (fun h => nomatch h)
      · exact Snd.bad
    · exact Snd.bad
  · exact Snd.bad
theorem tup_is {tg : Expr} (h : isTup tg = true) : ∃ es k p, tg = .Tuple es k p := by
  cases tg <;> first | (cases h; done) | exact ⟨_, _, _, rfl⟩
theorem rzs_map {K : PySem.W.Frag} {H : Hp} {O : Addr → Prop} {f : Nat → D} {g : Nat → V} (h : ∀ k, RZ K H O (f k) (g k)) : ∀ l : List Nat, RZs K H O (l.map f) (l.map g)
  | [] => .nil
  | k :: l => .cons (h k) (rzs_map h l)
theorem s_lrng {a : Expr} {p p2 pos pos2 : Pos} {ma : Env → Out D} (hc : X.calm = true) (hg : Gl X "list") (hm : X.mg "list" = none) (hg2 : Gl X "range") (hm2 : X.mg "range" = none) (hs : notStar a = true) (ha : PE X a (RdO X.K tb ma)) :
    PE X (.Call (.Name "list" p) [.Call (.Name "range" p2) [a] [] pos2] [] pos) (RdO X.K tb fun r => (ma r).bnd fun x r => .lift ((asInt x).bind fun n => (rng2q 0 n).map (.lst true)) r) := by
  refine mkPE (pe_listRg hc hg hm (prg_1 hg2 hm2 ha (starE [] X.env hs)) (starE [] X.env rfl)) fun σ H Q ⟨G, r, fp, d, r', E, q, k⟩ => ?_
  obtain ⟨x, r1, e1, q1⟩ := bnd_ok.mp q
  obtain ⟨e3, e4⟩ := lift_ok.mp q1
  subst e4
  obtain ⟨n, e5, e6⟩ := Option.bind_eq_some_iff.mp e3
  obtain ⟨ds, e7, rfl⟩ := Option.map_eq_some_iff.mp e6
  obtain ⟨⟨h1, h2, h3, h4⟩, rfl, hz⟩ := rng2q_ok e7
  refine ⟨G, r, fp, x, _, E, e1, fun v H1 fp1 f E1 hG ro P1 nw => ⟨n, ?_, ⟨h1, h2, h3, h4, hz⟩, fun q hq => ?_⟩⟩
  · rw [asInt_ok e5] at ro; exact ro_int ro
  · refine made_end E1.ofNil' P1 k (.lst hq (by rw [rngq_len]; exact hz) ?_)
    unfold rngq rgV
    refine rzs_map (fun j => ?_) _
    have e : (0 : Int) + (j : Nat) * 1 = 0 + (j : Nat) := by omega
    rw [e]
    exact .int _
theorem rngArg_is {a c : Expr} (h : rngArg I a = some c) : ∃ p2 pos2, a = .Call (.Name "range" p2) [c] [] pos2 ∧ I.glb "range" = true ∧ notStar c = true := by
  unfold rngArg at h
  split at h
  · split at h
    · rename_i hc
      cases h
      simp only [Bool.and_eq_true, decide_eq_true_eq, Bool.not_eq_true'] at hc
      obtain ⟨⟨⟨rfl, h1⟩, h2⟩, h3⟩ := hc
      exact ⟨_, _, rfl, h1, nstar h3⟩
    · cases h
  · cases h
theorem snd_blt (hx : XOk tb X I sg C) {f : Expr → E} (hf : ∀ e, Snd tb X sg C e (f e)) {x : Str} {p pos : Pos} {args : List Expr} (hg : I.glb x = true) (hst : args.any isStar = false) : Snd tb X sg C (.Call (.Name x p) args [] pos) (erBlt f I x args) := by
  obtain ⟨g1, g2, g3⟩ := glb_is hx hg
  unfold erBlt
  split
  · rename_i a
    have ha : notStar a = true := nstar (by simpa using hst)
    split
    · rename_i b hb
      split
      · rename_i c hcc
        split at hcc
        · rename_i hbl
          obtain ⟨p2, pos2, rfl, h1, h2⟩ := rngArg_is hcc
          have hxl : x = "list" := by
            have hbl' : b = .list := by simpa using hbl
            subst hbl'
            unfold biOf at hb
            repeat' split at hb
            all_goals first
              | (cases hb; done)
              | assumption
          subst hxl
          exact Snd.plain rfl rfl (fun _ _ _ h => nomatch h) (fun _ => rfl) (s_lrng hx.calm g1 (hx.mg _ (by unfold bltN; simp)) (glb_is hx h1).1 (hx.mg _ (by unfold bltN; simp)) h2 (hf c).o) (fun h => nomatch h)
        · cases hcc
      · exact Snd.plain rfl rfl (fun _ _ _ h => nomatch h) (fun _ => rfl) (s_bi hb g1 (hx.mg _ (bi_in hb)) ha (hf a).p) (fun h => nomatch h)
    · split
      · rename_i e; subst e
        exact Snd.walk rfl rfl rfl fun tg _ => s_rng1 g1 (hx.mg _ (by unfold bltN; simp)) ha (hf a).o
      · split
        · rename_i e; subst e
          refine Snd.walk rfl rfl rfl fun tg ht => ?_
          obtain ⟨es, k, q, rfl⟩ := tup_is (ht rfl)
          exact s_enm g1 (hx.mg _ (by unfold bltN; simp)) ha (hf a).z
        · split
          · rename_i e
            exact snd_gen hx hf hg e
          · split
            · rename_i e
              exact snd_gen hx hf hg e
            · exact Snd.bad
  · rename_i a b
    have hab : isStar a = false ∧ isStar b = false := by simpa using hst
    have ha := nstar hab.1
    have hb := nstar hab.2
    split
    · rename_i o ho
      exact Snd.plain rfl rfl (fun _ _ _ h => nomatch h) (fun _ => rfl) (s_bi2 hx.calm ho g1 (hx.mg _ (bi2_in ho)) ha hb (hf a).z (hf b).z) (fun h => nomatch h)
    · split
      · rename_i e; subst e
        exact Snd.walk rfl rfl rfl fun tg _ => s_rng2 g1 (hx.mg _ (by unfold bltN; simp)) ha hb (hf a).o (hf b).o
      · split
        · rename_i e; subst e
          refine Snd.walk rfl rfl rfl fun tg ht => ?_
          obtain ⟨es, k, q, rfl⟩ := tup_is (ht rfl)
          exact s_zip g1 (hx.mg _ (by unfold bltN; simp)) ha hb (hf a).z (hf b).z
        · split
          · rename_i e; subst e
            split
            · rename_i t tp
              split
              · rename_i ty hty
                split
                · rename_i hc
                  simp only [Bool.and_eq_true, decide_eq_true_eq] at hc
                  obtain ⟨h1, h2⟩ := hc
                  exact Snd.plain rfl rfl (fun _ _ _ h => nomatch h) (fun _ => rfl) (s_isi g1 (hx.mg _ (by unfold bltN; simp)) hty (glb_is hx h1).1 (hx.mg _ (ty_in hty)) ha (hf a).z) (fun h => nomatch h)
                · exact Snd.bad
              · exact Snd.bad
            · exact Snd.bad
          · exact Snd.bad
  · rename_i a b c
    have hab : isStar a = false ∧ isStar b = false ∧ isStar c = false := by simpa using hst
    split
    · rename_i e; subst e
      exact Snd.walk rfl rfl rfl fun tg _ => s_rng3 g1 (hx.mg _ (by unfold bltN; simp)) (nstar hab.1) (nstar hab.2.1) (nstar hab.2.2) (hf a).o (hf b).o (hf c).o
    · exact Snd.bad
  · exact Snd.bad
theorem snd_meth (hx : XOk tb X I sg C) {f : Expr → E} (hf : ∀ e, Snd tb X sg C e (f e)) {o : Expr} {m : Str} {apos cpos : Pos} {args : List Expr} : Snd tb X sg C (.Call (.Attribute o m apos) args [] cpos) (erMeth f I o m apos cpos args) := by
  unfold erMeth
  split
  · rename_i x p
    split
    · rename_i hl
      split
      · rename_i i hi
        split
        · rename_i e; subst e
          obtain ⟨h1, h2, h3, h4⟩ := var_is hx hi
          exact Snd.plain rfl rfl (fun _ _ _ h => nomatch h) (fun _ => rfl) (s_pop0 (pe_var h1 h2 h3 h4) hl) (fun h => nomatch h)
        · exact Snd.bad
      · rename_i i a hi
        obtain ⟨h1, h2, h3, h4⟩ := var_is hx hi
        split
        · exact Snd.bad
        · rename_i hst
          have ha := nstar (by simpa using hst)
          split
          · rename_i e; subst e
            exact Snd.plain rfl rfl (fun _ _ _ h => nomatch h) (fun _ => rfl) (s_pop1 (pe_var h1 h2 h3 h4) hl ha (hf a).z) (fun h => nomatch h)
          · split
            · rename_i e; subst e
              exact Snd.plain rfl rfl (fun _ _ _ h => nomatch h) (fun _ => rfl) (s_index rfl hl ha (hf _).z (hf a).z) (fun h => nomatch h)
            · exact Snd.bad
      · exact Snd.bad
    · exact Snd.bad
  · exact Snd.bad
/-! ### targets -/
theorem snd_tgts (hx : XOk tb X I sg C) : ∀ {es : List Expr} {is : List Nat}, tgtsOf I es = some is → PGs X es (RdGs X.K tb is) ∧ es.all isName = true ∧ es.length = is.length ∧ (∀ j ∈ is, I.io ≠ some j) ∧ PGs X es (gNames is) ∧ ∀ j ∈ is, j < X.N.length
  | [], is, h => by
    cases h
    exact ⟨gs_nil, rfl, rfl, fun j hj => by simp at hj, pgs_nil, fun j hj => by simp at hj⟩
  | e :: es, is, h => by
    cases e <;> first
      | (cases h; done)
      | skip
    rename_i x p
    have h' : (I.tgt x).bind (fun i => (tgtsOf I es).map (i :: ·)) = some is := h
    obtain ⟨i, hi, h2⟩ := Option.bind_eq_some_iff.mp h'
    obtain ⟨is', his, rfl⟩ := Option.map_eq_some_iff.mp h2
    obtain ⟨r1, r2, r3, r4, r5, r6⟩ := snd_tgts hx his
    obtain ⟨a1, a2, a3, a4⟩ := tgt_is hx hi
    refine ⟨gs_cons (g_name hx.nd a1 a2 a3) r1, by simp [isName, r2], by simp [r3], fun j hj => ?_, pgs_cons (pg_name hx.nd a1 a2 a3) r5, fun j hj => ?_⟩
    · rcases List.mem_cons.mp hj with z | z
      · rw [z]; exact a4
      · exact r4 j z
    · rcases List.mem_cons.mp hj with z | z
      · rw [z]; exact (List.getElem?_eq_some_iff.mp a1).1
      · exact r6 j z
theorem snd_tgt (hx : XOk tb X I sg C) {e : Expr} {t : T} (h : tgOf I e = some t) : PG X e (RdG X.K tb t) ∧ ∀ j ∈ t.slots, I.io ≠ some j := by
  cases e with
  | Tuple es k p =>
    have h' : (tgtsOf I es).map T.tp = some t := h
    obtain ⟨is, his, rfl⟩ := Option.map_eq_some_iff.mp h'
    obtain ⟨r1, r2, r3, r4, _, _⟩ := snd_tgts hx his
    exact ⟨g_tup hx.calm r2 r3 r1, r4⟩
  | Name x p =>
    have h' : (I.tgt x).map T.nm = some t := h
    obtain ⟨i, hi, rfl⟩ := Option.map_eq_some_iff.mp h'
    obtain ⟨a1, a2, a3, a4⟩ := tgt_is hx hi
    exact ⟨g_name hx.nd a1 a2 a3, fun j hj => by simp [T.slots] at hj; rw [hj]; exact a4⟩
  | _ => cases h
/-! ### comprehensions -/
theorem XOk.blk (hx : XOk tb X I sg C) {scope : Scope} (hk : scope.kind = .function) (s : Shared) (H : Hp) (Ca : Addr) (cl : List (Str × Addr)) (fp : List Addr) : XOk tb (X.blk s H scope (compEnvC scope cl Ca X.env) fp) (infB I scope) sg C where
  N := hx.N
  nd := hx.nd
  sc := by show L2.relS scope X.env.scope = L2.relS scope I.sc; rw [hx.sc]
  calm := hx.calm
  cw := fun h => nomatch h
  kind := hk
  xe := rfl
  units := hx.units
  mg := hx.mg
  defs := hx.defs
  kws := hx.kws
  gen := fun h => nomatch h
theorem snd_comp (hx : XOk tb X I sg C) {f : Expr → E} {g : Inf → Expr → E} (hf : ∀ e, Snd tb X sg C e (f e)) (hg : ∀ X' I', XOk tb X' I' sg C → ∀ e, Snd tb X' sg C e (g I' e)) {elt : Expr} {gens : List Comprehension} {scope : Scope} {pos : Pos} :
    Snd tb X sg C (.ListComp elt gens scope pos) (erComp f g I elt gens scope) := by
  unfold erComp
  split
  · rename_i tgE it ifs
    split
    · rename_i hc
      simp only [Bool.and_eq_true, decide_eq_true_eq, Bool.not_eq_true'] at hc
      obtain ⟨⟨⟨hset, hlen⟩, hblk⟩, hcell⟩ := hc
      split
      · rename_i t ht
        split
        · rename_i hc2
          simp only [Bool.and_eq_true, List.all_eq_true, decide_eq_true_eq, Bool.or_eq_true, Bool.not_eq_true'] at hc2
          obtain ⟨hsl, hpair⟩ := hc2
          have ok : BlkOk X.N X.env.scope scope (ownOf I.N scope.names) := by rw [hx.N, hx.sc]; exact blkOk_by hblk
          have XB : ∀ (s : Shared) (H : Hp) (Ca : Addr) (cl : List (Str × Addr)) (fp : List Addr), XOk tb (X.blk s H scope (compEnvC scope cl Ca X.env) fp) (infB I scope) sg C := fun s H Ca cl fp => hx.blk ok.kind s H Ca cl fp
          refine Snd.plain (v := compR (ev3 sg C (f it)).i t ((ownOf I.N scope.names).map (·.2)) (evts (ev3s sg C (ifs.map (g (infB I scope))))) (ev3 sg C (g (infB I scope) elt)).z) rfl rfl (fun _ _ _ h => nomatch h) (fun _ => rfl) ?_ (fun h => nomatch h)
          refine s_comp hx.calm hx.nd ((hf it).i tgE fun hp => ?_) ok hsl (fun s H Ca cl fp => (snd_tgt (XB s H Ca cl fp) ht).1) (fun s H Ca cl fp => ?_) (fun s H Ca cl fp => (hg _ _ (XB s H Ca cl fp) elt).z) (fsi hset X.env)
          · rcases hpair with z | z
            · rw [hp] at z; cases z
            · exact z
          · match ifs, hlen with
            | [], _ => exact s_pts_nil
            | [c], _ => exact s_pts_one (hg _ _ (XB s H Ca cl fp) c).tt
            | _ :: _ :: _, h => simp at h
        · exact Snd.bad
      · exact Snd.bad
    · exact Snd.bad
  · exact Snd.bad
end
end Sf
end
section
set_option Elab.async false
set_option maxRecDepth 100000
set_option linter.all false
/-! SfSnd3: all expressions. -/
namespace Sf
open PySem PySem.Spec PyProof.Rows L2

section
variable {tb : List Addr} {X : Cx} {I : Inf} {sg : Sig} {C : Calls}
theorem bnd_frz_t (v : Env → Out D) : (fun r => ((v r).bnd fun d r => .ok d.frz r).bnd fun x r => .lift (tru x) r) = fun r => (v r).bnd fun x r => .lift (tru x) r := by
  funext r
  cases v r with
  | ok a r1 => show Out.lift (tru a.frz) r1 = Out.lift (tru a) r1; cases a <;> rfl
  | exn => rfl
  | bad => rfl
theorem snd_all : ∀ (n : Nat) (X : Cx) (I : Inf), XOk tb X I sg C → ∀ e, Snd tb X sg C e (erE n I e)
  | 0, _, _, _, _ => Snd.bad
  | n + 1, X, I, hx, e => by
    have hf := snd_all n X I hx
    cases e with
    | Name x p =>
      show Snd tb X sg C _ (orE ((I.var x).map .var))
      cases h : I.var x with
      | none => exact Snd.bad
      | some i => exact snd_var hx h
    | Constant c k p =>
      cases c with
      | int i => exact Snd.plain rfl rfl (fun _ _ _ h => nomatch h) (fun _ => rfl) (s_const (v := .int i) pe_int fun _ _ _ => .int i) fun _ => s_constX (v := .int i) pe_int (fun _ _ _ => .int i) rfl
      | bool b => exact Snd.plain rfl rfl (fun _ _ _ h => nomatch h) (fun _ => rfl) (s_const (v := .bl b) pe_bl fun _ _ _ => .bl b) fun _ => s_constX (v := .bl b) pe_bl (fun _ _ _ => .bl b) rfl
      | none => exact Snd.plain rfl rfl (fun _ _ _ h => nomatch h) (fun _ => rfl) (s_const (v := .non) pe_non fun _ _ _ => .non) fun _ => s_constX (v := .non) pe_non (fun _ _ _ => .non) rfl
      | str s => exact Snd.plain rfl rfl (fun _ _ _ h => nomatch h) (fun _ => rfl) (s_const (v := .str s) pe_str fun _ _ _ => .str _) fun _ => s_constX (v := .str s) pe_str (fun _ _ _ => .str _) rfl
      | _ => exact Snd.bad
    | BinOp a op b p =>
      show Snd tb X sg C _ (match opOf op with | some o => .bin o (erE n I a) (erE n I b) | none => .bad)
      split
      · rename_i o ho
        exact Snd.plain rfl rfl (fun _ _ _ h => nomatch h) (fun _ => rfl) (s_bin ho (hf a).z (hf b).z) (fun h => nomatch h)
      · exact Snd.bad
    | UnaryOp op a p =>
      cases op with
      | Not =>
        show Snd tb X sg C _ (.not (erE n I a))
        have o := s_notV (tb := tb) (pos := p) (hf a).p
        exact ⟨o, ZtoP (toZ o), (fun h => nomatch h), s_notT (hf a).tt, fun _ _ => neverI, (fun _ h => by cases h), (fun _ _ _ h => nomatch h)⟩
      | USub => exact Snd.plain rfl rfl (fun _ _ _ h => nomatch h) (fun _ => rfl) (s_neg (hf a).o) (fun h => nomatch h)
      | _ => exact Snd.bad
    | BoolOp op vs p =>
      match vs with
      | [] => exact Snd.bad
      | [a] =>
        show Snd tb X sg C _ (.one (erE n I a))
        have w : PW X (.BoolOp op [a] p) (RdT X.K tb (ev3 sg C (erE n I a)).t) := by
          cases op with
          | And => exact pw_and1 (hf a).tt
          | Or => exact pw_or1 (hf a).tt
        exact ⟨pe_one (hf a).o, ZtoP (toZ (pe_one (hf a).o)), (fun h => nomatch h), w.pt, fun _ _ => neverI, (fun _ h => by cases h), fun _ _ _ h => by cases h; exact w⟩
      | a :: b :: r =>
        cases op with
        | And =>
          show Snd tb X sg C _ (.and (erE n I a) (erE n I (.BoolOp .And (b :: r) p)))
          have o := s_and (tb := tb) (ta := fun _ => .bad) (tb' := fun _ => .bad) (hf a).o (hf (.BoolOp .And (b :: r) p)).o
          have w := s_andT (tb := tb) (hf a).tt ((hf (.BoolOp .And (b :: r) p)).w _ _ _ rfl)
          exact ⟨o, ZtoP (toZ o), (fun h => nomatch h), w.pt, fun _ _ => neverI, (fun _ h => by cases h), fun _ _ _ h => by cases h; exact w⟩
        | Or =>
          show Snd tb X sg C _ (.or (erE n I a) (erE n I (.BoolOp .Or (b :: r) p)))
          have o := s_or (tb := tb) (hf a).o (hf (.BoolOp .Or (b :: r) p)).o
          have w := s_orT (tb := tb) (hf a).tt ((hf (.BoolOp .Or (b :: r) p)).w _ _ _ rfl)
          exact ⟨o, ZtoP (toZ o), (fun h => nomatch h), w.pt, fun _ _ => neverI, (fun _ h => by cases h), fun _ _ _ h => by cases h; exact w⟩
    | IfExp c a b p =>
      show Snd tb X sg C _ (.ifx (erE n I c) (erE n I a) (erE n I b))
      have o := s_if (tb := tb) (pos := p) (hf c).tt (hf a).o (hf b).o
      refine ⟨o, ZtoP (toZ o), (fun h => nomatch h), s_ifT (hf c).tt (hf a).tt (hf b).tt, fun tg _ => ?_, (fun _ h => by cases h), (fun _ _ _ h => nomatch h)⟩
      have q := s_walk (tg := tg) (toZ o)
      rw [bnd_frz_i] at q
      exact q
    | Compare a ops cs p =>
      match ops, cs with
      | [op], [b] =>
        show Snd tb X sg C _ (if behindInMarks op b then .bad else .cmp (cpOf op) (erE n I a) (erE n I b))
        split
        · exact Snd.bad
        · rename_i hm
          have hm : behindInMarks op b = false := by simpa using hm
          by_cases hs : (erE n I b).simple = true
          · have e1 : ev3 sg C (.cmp (cpOf op) (erE n I a) (erE n I b)) = Md.mk' fun r => ((ev3 sg C (erE n I a)).p (erE n I a).slot? r).bnd fun x r => ((ev3 sg C (erE n I b)).p (erE n I b).slot? r).bnd fun y r => .lift ((cmpop (cpOf op) x y).map .bl) r := by
              show Md.mk' _ = _
              rw [hs]; rfl
            obtain ⟨o, t⟩ := s_cmpS (tb := tb) (pos := p) hx.units hm (hf a).p ((hf b).x hs) (simple_same hs)
            exact Snd.plainT e1 rfl rfl (fun _ _ _ h => nomatch h) o t
          · have e1 : ev3 sg C (.cmp (cpOf op) (erE n I a) (erE n I b)) = Md.mk' fun r => ((ev3 sg C (erE n I a)).z r).bnd fun x r => ((ev3 sg C (erE n I b)).p (erE n I b).slot? r).bnd fun y r => .lift ((cmpop (cpOf op) x y).map .bl) r := by
              show Md.mk' _ = _
              have hs' : (erE n I b).simple = false := by simpa using hs
              rw [hs']; rfl
            obtain ⟨o, t⟩ := s_cmpP (tb := tb) (pos := p) hx.units hm (hf a).z (hf b).p
            exact Snd.plainT e1 rfl rfl (fun _ _ _ h => nomatch h) o t
      | [op, op'], [b, c] =>
        show Snd tb X sg C _ (if lastMarks [op, op'] [b, c] then .bad else .chn (cpOf op) (cpOf op') (erE n I a) (erE n I b) (erE n I c))
        split
        · exact Snd.bad
        · rename_i hm
          obtain ⟨o, t⟩ := s_chain (tb := tb) (pos := p) hx.units (by simpa using hm) (hf a).z (hf b).z (hf c).z
          exact Snd.plainT rfl rfl rfl (fun _ _ _ h => nomatch h) o t
      | [], _ => exact Snd.bad
      | [_], [] => exact Snd.bad
      | [_], _ :: _ :: _ => exact Snd.bad
      | [_, _], [] => exact Snd.bad
      | [_, _], [_] => exact Snd.bad
      | [_, _], _ :: _ :: _ :: _ => exact Snd.bad
      | _ :: _ :: _ :: _, _ => exact Snd.bad
    | Tuple es k p =>
      show Snd tb X sg C _ (if es.any isStar then .bad else .tup (es.map (erE n I)))
      split
      · exact Snd.bad
      · rename_i hs
        exact Snd.plain rfl rfl (fun _ _ _ h => nomatch h) (fun _ => rfl) (s_tup (snd_A hf (by simpa using hs))) (fun h => nomatch h)
    | List es p =>
      show Snd tb X sg C _ (if es.any isStar then .bad else .lst (es.map (erE n I)))
      split
      · exact Snd.bad
      · rename_i hs
        exact Snd.plain rfl rfl (fun _ _ _ h => nomatch h) (fun _ => rfl) (s_lst (snd_A hf (by simpa using hs))) (fun h => nomatch h)
    | Dict ks vs p =>
      match ks, vs with
      | [], [] => exact Snd.plain rfl rfl (fun _ _ _ h => nomatch h) (fun _ => rfl) s_dic (fun h => nomatch h)
      | [], _ :: _ => exact Snd.bad
      | _ :: _, _ => exact Snd.bad
    | Subscript a i p =>
      have sub : (∀ a b c p, i ≠ .Slice a b c p) → Snd tb X sg C (.Subscript a i p) (.sub (erE n I a) (erE n I i)) := fun hp => by
        cases hs : (erE n I a).slot? with
        | some s =>
          have e1 : ev3 sg C (.sub (erE n I a) (erE n I i)) = Md.mk' fun r => (has s r).bnd fun _ r => ((ev3 sg C (erE n I i)).z r).bnd fun y r => .lift ((peek r s).bind fun x => idx x y) r := by
            show Md.mk' _ = _
            rw [hs]
          exact Snd.plain e1 rfl (fun _ _ _ h => nomatch h) (fun _ => rfl) (s_subV hp ((hf a).v s hs) (hf i).z) (fun h => nomatch h)
        | none =>
          have e1 : ev3 sg C (.sub (erE n I a) (erE n I i)) = Md.mk' fun r => ((ev3 sg C (erE n I a)).z r).bnd fun x r => ((ev3 sg C (erE n I i)).z r).bnd fun y r => .lift (idx x y) r := by
            show Md.mk' _ = _
            rw [hs]
          exact Snd.plain e1 rfl (fun _ _ _ h => nomatch h) (fun _ => rfl) (s_sub hp (hf a).z (hf i).z) (fun h => nomatch h)
      cases i with
      | Slice lo hi st p2 =>
        cases st with
        | some _ => exact Snd.bad
        | none =>
          show Snd tb X sg C _ (.slc (erE n I a) (lo.map (erE n I)) (hi.map (erE n I)))
          have po : ∀ o : Option Expr, PO X o (RdPo X.K tb (evo (ev3o sg C (o.map (erE n I))))) := fun o => by
            cases o with
            | none => exact po_no
            | some e => exact po_so (hf e).o
          cases hs : (erE n I a).slot? with
          | some s =>
            have e1 : ev3 sg C (.slc (erE n I a) (lo.map (erE n I)) (hi.map (erE n I))) = Md.mk' fun r => (has s r).bnd fun _ r => (evo (ev3o sg C (lo.map (erE n I))) r).bnd fun l r => (evo (ev3o sg C (hi.map (erE n I))) r).bnd fun h r => .lift ((peek r s).bind fun x => slq x l h) r := by
              show Md.mk' _ = _
              rw [hs]
            exact Snd.plain e1 rfl (fun _ _ _ h => nomatch h) (fun _ => rfl) (s_slcV ((hf a).v s hs) (po lo) (po hi)) (fun h => nomatch h)
          | none =>
            have e1 : ev3 sg C (.slc (erE n I a) (lo.map (erE n I)) (hi.map (erE n I))) = Md.mk' fun r => ((ev3 sg C (erE n I a)).z r).bnd fun x r => (evo (ev3o sg C (lo.map (erE n I))) r).bnd fun l r => (evo (ev3o sg C (hi.map (erE n I))) r).bnd fun h r => .lift (slq x l h) r := by
              show Md.mk' _ = _
              rw [hs]
            exact Snd.plain e1 rfl (fun _ _ _ h => nomatch h) (fun _ => rfl) (s_slc (hf a).z (po lo) (po hi)) (fun h => nomatch h)
      | _ => exact sub (fun _ _ _ _ h => nomatch h)
    | ListComp elt gens scope p => exact snd_comp hx hf (fun X' I' hx' => snd_all n X' I' hx')
    | Call fn args kws cpos =>
      cases fn with
      | Name x p =>
        show Snd tb X sg C _ (if I.glb x then (match ixOf x I.fs with
          | some k => erDef (erE n I) I k args kws
          | none => (match kws with
            | [] => if args.any isStar then .bad else erBlt (erE n I) I x args
            | _ => .bad)) else .bad)
        split
        · rename_i hg
          split
          · rename_i k hk
            exact snd_def hx hf hg hk
          · split
            · split
              · exact Snd.bad
              · rename_i hs
                exact snd_blt hx hf hg (by simpa using hs)
            · exact Snd.bad
        · exact Snd.bad
      | Attribute o m apos =>
        match kws with
        | [] => exact snd_meth hx hf
        | _ :: _ => exact Snd.bad
      | _ => exact Snd.bad
    | _ => exact Snd.bad
end
end Sf
end
section
set_option Elab.async false
set_option maxRecDepth 100000
set_option linter.all false
/-! SfSnd4: all statements. -/
namespace Sf
open PySem PySem.Spec PyProof.Rows L2

section
variable {tb : List Addr} {X : Cx} {I : Inf} {sg : Sig} {C : Calls}
theorem neverS {st : Stmt} {io : Option Nat} : PS X st (RdS X.K tb io fun _ => .bad) := ⟨fun _ _ _ _ _ _ ⟨_, _, _, _, h⟩ => h.elim⟩
theorem star_fn {es : List Expr} (h : es.any isStar = false) : (es.any fun | .Starred .. => true | _ => false) = false := by
  induction es with
  | nil => rfl
  | cons e es ih =>
    simp only [List.any_cons, Bool.or_eq_false_iff] at h ⊢
    exact ⟨by cases e <;> first | rfl | exact h.1, ih h.2⟩
theorem sw_is (hx : XOk tb X I sg C) {ts es : List Expr} {o : Option (List Str)} {kt k2 : Nat} {pt pt2 : Pos} (hst : es.any isStar = false) (h : parHow I ts es = some o) : swappedStores [.Tuple ts kt pt] (.Tuple es k2 pt2) X.env = pure o := by
  have hb : X.env.blockKind = .function := by unfold Env.blockKind; rw [hx.kind]; rfl
  have hk : ∀ id, X.env.kindOf id = I.sc.names.lookup id := fun id => by show X.env.scope.names.lookup id = _; rw [hx.sc]
  have hn : (ts.filterMap fun
    | .Name id pos => if X.env.kindOf id == some .local && pos.line == (ts.head?.map (·.pos.line)).getD 0 then some id else none
    | _ => none) = parNames I ts := by
    unfold parNames
    congr 1
    funext e
    cases e <;> first | rfl | (simp only [hk])
  unfold parHow at h
  have e0 : swappedStores [.Tuple ts kt pt] (.Tuple es k2 pt2) X.env = (if (!(ts.length == 2 || ts.length == 3) || es.length != ts.length || X.env.blockKind != .function) = true then pure none else
    if (es.any fun | .Starred .. => true | _ => false) = true then pure none else
    if ((ts.filterMap fun
    | .Name id pos => if X.env.kindOf id == some .local && pos.line == (ts.head?.map (·.pos.line)).getD 0 then some id else none
    | _ => none).length != ts.length || (ts.filterMap fun
    | .Name id pos => if X.env.kindOf id == some .local && pos.line == (ts.head?.map (·.pos.line)).getD 0 then some id else none
    | _ => none).eraseDups.length != (ts.filterMap fun
    | .Name id pos => if X.env.kindOf id == some .local && pos.line == (ts.head?.map (·.pos.line)).getD 0 then some id else none
    | _ => none).length) = true then pure none else
    if es.all (foldedForSure 8) = true then pure none else if es.all (constantsAlone 8) = true then unsupported "assign.tuple-of-constant-expressions:order-of-the-stores" else pure (some (ts.filterMap fun
    | .Name id pos => if X.env.kindOf id == some .local && pos.line == (ts.head?.map (·.pos.line)).getD 0 then some id else none
    | _ => none))) := by rfl
  rw [e0, hb, star_fn hst, hn]
  by_cases c1 : (!(ts.length == 2 || ts.length == 3) || es.length != ts.length) = true
  · rw [if_pos c1] at h
    cases h
    have c1' : (!(ts.length == 2 || ts.length == 3) || es.length != ts.length || ScopeKind.function != ScopeKind.function) = true := by rw [c1]; rfl
    rw [if_pos c1']
  · rw [if_neg c1] at h
    have c1' : ¬ (!(ts.length == 2 || ts.length == 3) || es.length != ts.length || ScopeKind.function != ScopeKind.function) = true := by
      have : (!(ts.length == 2 || ts.length == 3) || es.length != ts.length) = false := by simpa using c1
      rw [this]; decide
    rw [if_neg c1', if_neg (by decide)]
    by_cases c2 : ((parNames I ts).length != ts.length || (parNames I ts).eraseDups.length != (parNames I ts).length) = true
    · rw [if_pos c2] at h
      cases h
      rw [if_pos c2]
    · rw [if_neg c2] at h ⊢
      by_cases c3 : es.all (foldedForSure 8) = true
      · rw [if_pos c3] at h ⊢
        cases h
        rfl
      · rw [if_neg c3] at h ⊢
        by_cases c4 : es.all (constantsAlone 8) = true
        · rw [if_pos c4] at h; cases h
        · rw [if_neg c4] at h ⊢
          cases h
          rfl
theorem lastTwo {x y : Str} {px py : Pos} {is : List Nat} (h : tgtsOf I [.Name x px, .Name y py] = some is) : ∃ i j, is = [i, j] ∧ I.tgt x = some i ∧ I.tgt y = some j := by
  have h' : (I.tgt x).bind (fun i => ((I.tgt y).bind fun j => (some []).map (j :: ·)).map (i :: ·)) = some is := h
  obtain ⟨i, hi, h2⟩ := Option.bind_eq_some_iff.mp h'
  obtain ⟨js, hjs, rfl⟩ := Option.map_eq_some_iff.mp h2
  obtain ⟨j, hj, h3⟩ := Option.bind_eq_some_iff.mp hjs
  cases h3
  exact ⟨i, j, rfl, hi, hj⟩
theorem lastThree {x y z : Str} {px py pz : Pos} {is : List Nat} (h : tgtsOf I [.Name x px, .Name y py, .Name z pz] = some is) : ∃ i j l, is = [i, j, l] ∧ I.tgt x = some i ∧ I.tgt y = some j ∧ I.tgt z = some l := by
  have h' : (I.tgt x).bind (fun i => (tgtsOf I [.Name y py, .Name z pz]).map (i :: ·)) = some is := h
  obtain ⟨i, hi, h2⟩ := Option.bind_eq_some_iff.mp h'
  obtain ⟨js, hjs, rfl⟩ := Option.map_eq_some_iff.mp h2
  obtain ⟨j, l, rfl, hj, hl⟩ := lastTwo hjs
  exact ⟨i, j, l, rfl, hi, hj, hl⟩
theorem snd_par (hx : XOk tb X I sg C) {f : Expr → E} (hf : ∀ e, Snd tb X sg C e (f e)) {ts es : List Expr} {kt k2 : Nat} {pt pt2 pos : Pos} : PS X (.Assign [.Tuple ts kt pt] (.Tuple es k2 pt2) pos) (RdS X.K tb I.io (ex sg C (erPar f I ts es))) := by
  have loc : ∀ {x}, locB I x = true → X.env.scope.names.lookup x = some .local := fun {x} h => by rw [hx.sc]; simpa [locB] using h
  unfold erPar
  split
  · rename_i is his
    obtain ⟨r1, r2, r3, r4, r5, r6⟩ := snd_tgts hx his
    split
    · exact neverS
    · rename_i hc
      have hc : (es.any isStar || !decide is.Nodup || !decide (is.length ≤ SZ)) = false := by simpa using hc
      simp only [Bool.or_eq_false_iff, Bool.not_eq_false', decide_eq_true_eq] at hc
      obtain ⟨⟨hst, hnd⟩, hsz⟩ := hc
      split
      · rename_i hp
        exact s_parT hx.calm r2 r3 r5 r6 r4 hsz (snd_Ao hf hst) (sw_is hx hst hp)
      · rename_i ns hp
        split
        · split
          · rename_i hc2
            simp only [Bool.and_eq_true, decide_eq_true_eq] at hc2
            obtain ⟨⟨rfl, lx⟩, ly⟩ := hc2
            obtain ⟨i, j, rfl, hi, hj⟩ := lastTwo his
            obtain ⟨a1, _, _, _⟩ := tgt_is hx hi
            obtain ⟨b1, _, _, _⟩ := tgt_is hx hj
            exact s_par2 hx.calm hx.nd a1 b1 (by simpa using hnd) (loc lx) (loc ly) r4 (snd_Ao hf hst) (sw_is hx hst hp)
          · exact neverS
        · split
          · rename_i hc2
            simp only [Bool.and_eq_true, decide_eq_true_eq] at hc2
            obtain ⟨⟨⟨rfl, lx⟩, ly⟩, lz⟩ := hc2
            obtain ⟨i, j, l, rfl, hi, hj, hl⟩ := lastThree his
            obtain ⟨a1, _, _, _⟩ := tgt_is hx hi
            obtain ⟨b1, _, _, _⟩ := tgt_is hx hj
            obtain ⟨c1, _, _, _⟩ := tgt_is hx hl
            simp only [List.nodup_cons, List.mem_cons, List.not_mem_nil, or_false, not_or] at hnd
            exact s_par3 hx.calm hx.nd a1 b1 c1 hnd.1.1 hnd.1.2 hnd.2.1 (loc lx) (loc ly) (loc lz) r4 (snd_Ao hf hst) (sw_is hx hst hp)
          · exact neverS
        · exact neverS
      · exact neverS
  · exact neverS
theorem snd_setComp (hx : XOk tb X I sg C) {f : Expr → E} {g : Inf → Expr → E} (hf : ∀ e, Snd tb X sg C e (f e)) (hg : ∀ X' I', XOk tb X' I' sg C → ∀ e, Snd tb X' sg C e (g I' e)) {elt : Expr} {gens : List Comprehension} {scope : Scope} {pos cpos px : Pos} {x : Str} {i : Nat}
    (hi : I.tgt x = some i) (hl : I.sc.names.lookup x = some .local) (hpl : (px.line == cpos.line) = true) (hno : (scope.names.any fun (n, k) => n == x && (k == .local || k == .cell)) = false) :
    PS X (.Assign [.Name x px] (.ListComp elt gens scope cpos) pos) (RdS X.K tb I.io fun r => ((ev3 sg C (erComp f g I elt gens scope)).v r).fin fun d r => .nx (putE r i d)) := by
  have hlx : X.env.scope.names.lookup x = some .local := by rw [hx.sc]; exact hl
  obtain ⟨a1, _, _, a4⟩ := tgt_is hx hi
  unfold erComp
  split
  · rename_i tgE it ifs
    split
    · rename_i hc
      simp only [Bool.and_eq_true, decide_eq_true_eq, Bool.not_eq_true'] at hc
      obtain ⟨⟨⟨hset, hlen⟩, hblk⟩, hcell⟩ := hc
      split
      · rename_i t ht
        split
        · rename_i hc2
          simp only [Bool.and_eq_true, List.all_eq_true, decide_eq_true_eq, Bool.or_eq_true, Bool.not_eq_true'] at hc2
          obtain ⟨hsl, hpair⟩ := hc2
          have ok : BlkOk X.N X.env.scope scope (ownOf I.N scope.names) := by rw [hx.N, hx.sc]; exact blkOk_by hblk
          have XB : ∀ (s : Shared) (H : Hp) (Ca : Addr) (cl : List (Str × Addr)) (fp : List Addr), XOk tb (X.blk s H scope (compEnvC scope cl Ca X.env) fp) (infB I scope) sg C := fun s H Ca cl fp => hx.blk ok.kind s H Ca cl fp
          have q := ps_setLc (spos := pos) (ifs := ifs) (elt := elt) (pos := cpos) (te := RdZ X.K tb (ev3 sg C (g (infB I scope) elt)).z) (g := RdG X.K tb t) hx.calm hx.nd a1 hlx (sw_true hx.kind hlx hpl hno) ((hf it).i tgE fun hp => hpair.elim (fun z => by rw [hp] at z; cases z) id) ok (fun s H Ca cl fp => (snd_tgt (XB s H Ca cl fp) ht).1)
            (tt := RdT X.K tb (evts (ev3s sg C (ifs.map (g (infB I scope)))))) (fun s H Ca cl fp => (by
              match ifs, hlen with
              | [], _ => exact s_pts_nil
              | [c], _ => exact s_pts_one (hg _ _ (XB s H Ca cl fp) c).tt
              | _ :: _ :: _, h => simp at h)) (fun s H Ca cl fp => (hg _ _ (XB s H Ca cl fp) elt).z) (fsi hset X.env)
          refine ⟨fun pins s σ H Dn Iv h => q.run pins s σ H Dn Iv ?_⟩
          have aa : tAsg (RdO X.K tb (compR (ev3 sg C (f it)).i t ((ownOf I.N scope.names).map fun p => p.2) (evts (ev3s sg C (ifs.map (g (infB I scope))))) (ev3 sg C (g (infB I scope) elt)).z)) (gName i) Dn σ H :=
            asg_go a4 (by rw [Iv.len]; exact (List.getElem?_eq_some_iff.mp a1).1) h
          exact comp_tLc hsl aa
        · exact neverS
      · exact neverS
    · exact neverS
  · exact neverS
theorem sw_comp_false (hx : XOk tb X I sg C) {elt : Expr} {gens : List Comprehension} {scope : Scope} {cpos px : Pos} {x : Str} {l : Nat} (h : ((I.sc.names.lookup x == some .local) && (px.line == cpos.line)) = false) :
    swapsWith (.ListComp elt gens scope cpos) (some (.Name x px)) l X.env = pure false := by
  have e0 : swapsWith (.ListComp elt gens scope cpos) (some (.Name x px)) l X.env = pure (X.env.blockKind == .function && X.env.kindOf x == some .local && px.line == cpos.line && !(scope.names.any fun (n, k) => n == x && (k == .local || k == .cell))) := by rfl
  have hk : X.env.kindOf x = I.sc.names.lookup x := by show X.env.scope.names.lookup x = _; rw [hx.sc]
  rw [e0, hk]
  have e1 : (X.env.blockKind == ScopeKind.function && I.sc.names.lookup x == some .local && px.line == cpos.line && !(scope.names.any fun (n, k) => n == x && (k == .local || k == .cell))) = false := by
    rw [Bool.and_assoc (X.env.blockKind == ScopeKind.function), h]
    simp
  rw [e1]
theorem snd_asg (hx : XOk tb X I sg C) {n : Nat} {t e : Expr} {pos : Pos} : PS X (.Assign [t] e pos) (RdS X.K tb I.io (ex sg C (erAsg (erE n I) I t e pos))) := by
  have hf := snd_all (sg := sg) (C := C) n X I hx
  unfold erAsg
  split
  · rename_i x px
    split
    · rename_i i hi
      obtain ⟨a1, a2, a3, a4⟩ := tgt_is hx hi
      split
      · rename_i elt gens scope cpos
        split
        · rename_i hc
          simp only [Bool.and_eq_true, beq_iff_eq] at hc
          split
          · exact neverS
          · rename_i hno
            cases n with
            | zero => exact neverS
            | succ n => exact snd_setComp hx (snd_all n X I hx) (fun X' I' hx' => snd_all n X' I' hx') hi hc.1 (by simpa using hc.2) (by simpa using hno)
        · rename_i hc
          exact s_asg hx.nd a1 a2 a3 a4 (sw_comp_false hx (by simpa using hc)) (hf _).o
      · exact neverS
      · exact neverS
      · rename_i h1 h2 h3
        refine s_asg hx.nd a1 a2 a3 a4 ?_ (hf _).o
        cases e <;> first | rfl | exact absurd rfl (h1 _ _ _ _) | exact absurd rfl (h2 _ _ _ _) | exact absurd rfl (h3 _ _ _ _ _)
    · exact neverS
  · rename_i ts k pt
    split
    · exact snd_par hx hf
    · rename_i h1
      split
      · exact neverS
      · rename_i hc
        split
        · rename_i is his
          obtain ⟨r1, r2, r3, r4, r5, r6⟩ := snd_tgts hx his
          refine s_asgT (g_tup hx.calm r2 r3 r1) r4 ?_ ?_ rfl (hf _).z
          · cases e <;> first | rfl | (exact absurd rfl hc)
          · cases e <;> first | rfl | exact absurd rfl (h1 _ _ _)
        · exact neverS
  · rename_i o k p
    split
    · rename_i x px
      split
      · exact neverS
      · rename_i hk
        split
        · rename_i i hi
          obtain ⟨h1, h2, h3, h4⟩ := var_is hx hi
          have hu : X.A.units + 1 < cLine := by have := hx.units; omega
          exact s_set hu (fun a b c p e => by subst e; exact hk rfl) (pe_var h1 h2 h3 h4) (hf k).z (hf e).z
        · exact neverS
    · exact neverS
  · exact neverS
theorem snd_exp (hx : XOk tb X I sg C) {f : Expr → E} (hf : ∀ e, Snd tb X sg C e (f e)) {e : Expr} {pos : Pos} : PS X (.Expr e pos) (RdS X.K tb I.io (ex sg C (erExp f I e))) := by
  unfold erExp
  split
  · rename_i x p m apos args kws cpos
    split
    · rename_i hm
      subst hm
      split
      · rename_i i a hi
        split
        · exact neverS
        · rename_i hc
          have hc : (isStar a || !(apos.endLine == cpos.line)) = false := by simpa using hc
          simp only [Bool.or_eq_false_iff, Bool.not_eq_false'] at hc
          obtain ⟨h1, h2, h3, h4⟩ := var_is hx hi
          exact s_app (pe_var h1 h2 h3 h4) hc.2 (nstar hc.1) (hf a).z
      · exact neverS
    · exact s_expr rfl (hf _).o
  · split
    · exact neverS
    · rename_i hc
      exact s_expr (by cases e <;> first | rfl | exact absurd rfl hc) (hf _).o
theorem snd_S : ∀ (n : Nat) (X : Cx) (I : Inf), XOk tb X I sg C → ∀ st, PS X st (RdS X.K tb I.io (ex sg C (erS n I st)))
  | 0, _, _, _, _ => neverS
  | n + 1, X, I, hx, st => by
    have hs := snd_S n X I hx
    have hf := snd_all (sg := sg) (C := C) n X I hx
    have hp : PassesOwn (model X.prog X.w) X.A X.env X.xe := by rw [hx.xe]; exact PassesOwn.never
    have hss : ∀ sts : List Stmt, PSs X sts (RdS X.K tb I.io (exs sg C (sts.map (erS n I)))) := fun sts => by
      induction sts with
      | nil => exact ss_nil
      | cons a b ih => exact ss_cons (hs a) ih
    cases st with
    | Assign ts e pos =>
      match ts with
      | [] => exact neverS
      | [t] => exact snd_asg hx
      | _ :: _ :: _ => exact neverS
    | AugAssign t op e pos =>
      cases t with
      | Name x p =>
        show PS X _ (RdS X.K tb I.io (ex sg C (match opOf op, I.tgt x with
          | some o, some i => .aug i o (erE n I e)
          | _, _ => .bad)))
        split
        · rename_i o i ho hi
          obtain ⟨a1, a2, a3, a4⟩ := tgt_is hx hi
          exact s_aug ho hx.nd a1 a2 a3 a4 (hf e).z
        · exact neverS
      | _ => exact neverS
    | Expr e pos => exact snd_exp hx hf
    | Return v pos =>
      cases v with
      | none => exact s_retN
      | some e => exact s_ret (hf e).o
    | If c a b pos => exact s_ifS (hf c).tt (hss a) (hss b)
    | While c b els pos =>
      match els with
      | [] => exact s_while hp (hf c).tt (hss b)
      | _ :: _ => exact neverS
    | For t it b els pos =>
      match els with
      | [] =>
        show PS X _ (RdS X.K tb I.io (ex sg C (match tgOf I t with
          | some tg => if (!(erE n I it).pairs || isTup t) && !isSet it then .for_ tg (erE n I it) (b.map (erS n I)) else .bad
          | none => .bad)))
        split
        · rename_i tg htg
          obtain ⟨g1, g2⟩ := snd_tgt hx htg
          split
          · rename_i hc
            simp only [Bool.and_eq_true, Bool.or_eq_true, Bool.not_eq_true'] at hc
            exact s_for hp hx.calm g2 ((hf it).i t fun hp => hc.1.elim (fun z => by rw [hp] at z; cases z) id) g1 (hss b) (fsi hc.2 X.env)
          · exact neverS
        · exact neverS
      | _ :: _ => exact neverS
    | Break pos => exact s_break
    | Continue pos => exact s_continue
    | Pass pos => exact s_pass
    | _ => exact neverS
end
end Sf
end
section
set_option Elab.async false
set_option maxRecDepth 100000
set_option linter.all false
/-! SfDef: the module's defs keep their promises, level by level. -/
namespace Sf
open PySem PySem.Spec PyProof.Rows L2

/-- a def: its name, its text, its parameters, its names (the parameters first), the parameter that stands for the callers' variable, whether a generator stands in it -/
structure DRec where
  x : Str
  st : Stmt
  ps : List Str
  N : List Str
  io : Option Nat
  gen : Bool
def FUEL : Nat := 60
def infOf (ds : List DRec) (kwk : List Nat) (d : DRec) : Inf := ⟨d.N, ds.map DRec.x, ds.map DRec.ps, kwk, C8.fnScope d.st, true, d.gen, d.io⟩
def fnOfD (ds : List DRec) (kwk : List Nat) (d : DRec) : Fn := ⟨d.ps.length, d.N.length, d.io, (C8.fnBody d.st).map (erS FUEL (infOf ds kwk d))⟩
def tabOf (ds : List DRec) (kwk : List Nat) : List Fn := ds.map (fnOfD ds kwk)
/-- what the module's top gives for a def -/
structure DefK (K : PySem.W.Frag) (mg : Str → Option Value) (base : Heap) (tb : List Addr) (d : DRec) (kw : Prop) : Prop where
  ex : ∃ (f : Addr) (oc : Value) (od : Option Addr) (dV kV doc pm : Value) (an : Option Addr) (cdv ct : Value) (osl : Array (Option Value)),
    K.lookup f = some ⟨oc, od, .func (PySem.W.fnOf d.x d.x (C8.fnArgs d.st) (C8.fnBody d.st) (C8.fnScope d.st) dV kV doc pm an cdv ct), osl⟩ ∧ PySem.W.codeIn K cdv d.x = true ∧ mg d.x = some (.ref f) ∧ PySem.W.keepIn K (.ref f) = true ∧
    (∀ us : List Value, us.length = d.ps.length → bindArgs (PySem.W.fnOf d.x d.x (C8.fnArgs d.st) (C8.fnBody d.st) (C8.fnScope d.st) dV kV doc pm an cdv ct) ⟨us, []⟩ = pure (d.ps.zip us)) ∧
    (kw → KBinds K (PySem.W.fnOf d.x d.x (C8.fnArgs d.st) (C8.fnBody d.st) (C8.fnScope d.st) dV kV doc pm an cdv ct) d.ps d.ps kwG kwV) ∧
    (d.gen = true → ∃ c P, cdv = .ref c ∧ GxR.TabB base mg c P ∧ P ∈ tb)

section
variable {P : Program} {w : World} {K : PySem.W.Frag} {mg : Str → Option Value} {base : Heap} {tb : List Addr} {ds : List DRec} {kwk : List Nat}
/-- the promise with all that a caller asks -/
def CalX (P : Program) (w : World) (K : PySem.W.Frag) (mg : Str → Option Value) (base : Heap) (tb : List Addr) (kw : Prop) (k : Nat) (d : DRec) (run : List D → Out D) : Prop :=
  ∃ f fd, FnOk P w K mg base C8.CX0 k f fd d.ps (spF K tb d.ps.length d.io run) ∧ mg d.x = some (.ref f) ∧ PySem.W.keepIn K (.ref f) = true ∧ (∀ us : List Value, us.length = d.ps.length → bindArgs fd ⟨us, []⟩ = pure (d.ps.zip us)) ∧ (kw → KBinds K fd d.ps d.ps kwG kwV) ∧ ∃ oc od osl, K.lookup f = some ⟨oc, od, .func fd, osl⟩
theorem callN_fin (fs : List Fn) : ∀ (k i : Nat) (xs : List D) (d : D) (fin : Env), callN fs k i xs = .ok d fin → ∃ fn, fs[i]? = some fn ∧ xs.length = fn.np ∧ ∀ j, fn.io ≠ some j → peek fin j = none
  | 0, i, xs, d, fin, h => by cases h
  | k + 1, i, xs, d, fin, h => by
    have hf : ∀ (fn : Fn) (r : Env) (j : Nat), fn.io ≠ some j → peek (finE fn.io fn.np r) j = none := fun fn r j hj => by
      unfold finE peek
      rw [List.getElem?_map]
      by_cases q : j < fn.np
      · rw [List.getElem?_range q]
        show (if fn.io = some j then peek r j else none) = none
        rw [if_neg hj]
      · rw [List.getElem?_eq_none (by rw [List.length_range]; omega)]; rfl
    unfold callN at h
    split at h
    · rename_i fn hfn
      unfold runF at h
      split at h
      · rename_i hl
        refine ⟨fn, hfn, hl, fun j hj => ?_⟩
        split at h
        · cases h; exact hf _ _ _ hj
        · cases h; exact hf _ _ _ hj
        · cases h
        · cases h
      · cases h
    · cases h
theorem start_len {N : List Str} {vs : List V} : (L2.start N vs).length = vs.length + (N.length - vs.length) := by
  unfold L2.start
  rw [List.length_append, List.length_map, List.length_replicate]
theorem peek_app {xs : List D} {n i : Nat} : peek (xs.map some ++ List.replicate n none) i = xs[i]? := by
  unfold peek
  by_cases h : i < xs.length
  · rw [List.getElem?_append_left (by rw [List.length_map]; exact h), List.getElem?_map]
    cases xs[i]? <;> rfl
  · rw [List.getElem?_append_right (by rw [List.length_map]; omega), List.getElem?_eq_none (l := xs) (by omega), List.getElem?_replicate]
    split <;> rfl
theorem st_app {vs : List V} {N : List Str} {i : Nat} {v : V} (h : vs[i]? = some v) : (L2.start N vs)[i]? = some (some v) := by
  unfold L2.start
  obtain ⟨hl, _⟩ := List.getElem?_eq_some_iff.mp h
  rw [List.getElem?_append_left (by rw [List.length_map]; exact hl), List.getElem?_map, h]
  rfl
/-- a def's body between its call and its return -/
theorem body_go {np nn : Nat} {io : Option Nat} {N : List Str} {sg : Sig} {C : Calls} {body : List S} {vs : List V} {H : Hp} {Q : VK} {E : XK} (hN : N.length = nn) (hnp : np ≤ nn) (h : spF K tb np io (runF sg C ⟨np, nn, io, body⟩) vs H Q E) :
    RdS K tb io (exs sg C body) { nx := fun _ H' => Q .non H', rt := Q } (L2.start N vs) H := by
  obtain ⟨hl, G, xs, fp, d, fin, E, q, hio, k⟩ := h
  have hlx : xs.length = np := by
    have := E.len
    rw [List.length_map, List.length_map] at this
    omega
  have hlv : vs.length = np := hl
  have fpo : ∀ i, vs.length ≤ i → fp i = [] := fun i hi => E.emp i (by rw [peek_map, List.getElem?_eq_none (by omega)])
  have E1 : EnvR K tb H G (xs.map some ++ List.replicate (nn - np) none) (L2.start N vs) fp := by
    refine E.sub (fun _ _ h => h) (by rw [start_len, List.length_append, List.length_map, List.length_replicate]; omega) (fun i d0 h => ?_) fun i h => ?_
    · rw [peek_app] at h
      refine ⟨by rw [peek_map]; exact h, ?_, rfl⟩
      obtain ⟨hil, _⟩ := List.getElem?_eq_some_iff.mp h
      have hv : vs[i]? = some vs[i] := List.getElem?_eq_getElem (by omega)
      rw [st_app hv, st_map, hv]; rfl
    · rw [peek_app] at h
      exact E.emp i (by rw [peek_map]; exact h)
  have q0 : (match exs sg C body (xs.map some ++ List.replicate (nn - np) none) with
    | .rt d r => Out.ok d (finE io np r)
    | .nx r => .ok .non (finE io np r)
    | .exn c ys r => .exn c ys (finE io np r)
    | _ => .bad) = .ok d fin := by
    have q' := q
    unfold runF at q'
    rw [if_pos hlx] at q'
    exact q'
  have back : ∀ {G' : Addr → Prop} {r' : Env} {σ' : L2.St} {H' : Hp} {fp' : Nat → List Addr}, EnvR K tb H' G' r' σ' fp' → Fix io (L2.start N vs) σ' → Pres H fp H' fp' → ∃ fp'', EnvR K tb H' G' (finE io np r') (vs.map some) fp'' ∧ Pres H fp H' fp'' ∧ ∀ a, Own G' fp'' a → Own G' fp' a := fun {G' r' σ' H' fp'} E' f' P' => by
    have hm : ∀ {i : Nat} {a : Addr}, a ∈ (if io = some i ∧ i < np then fp' i else []) → (io = some i ∧ i < np) ∧ a ∈ fp' i := fun {i a} h => by
      by_cases c : io = some i ∧ i < np
      · rw [if_pos c] at h; exact ⟨c, h⟩
      · rw [if_neg c] at h; simp at h
    have pk : ∀ i, peek (finE io np r') i = if io = some i ∧ i < np then peek r' i else none := fun i => by
      unfold finE
      unfold peek
      rw [List.getElem?_map]
      by_cases c : i < np
      · rw [List.getElem?_range c]
        show (if io = some i then peek r' i else none) = _
        by_cases c2 : io = some i
        · rw [if_pos c2, if_pos ⟨c2, c⟩]; rfl
        · rw [if_neg c2, if_neg fun z => c2 z.1]
      · rw [List.getElem?_eq_none (by rw [List.length_range]; omega), if_neg fun z => c z.2]; rfl
    refine ⟨fun i => if io = some i ∧ i < np then fp' i else [], E'.sub (fun i a h => (hm h).2) (by unfold finE; rw [List.length_map, List.length_range, List.length_map, hlv]) (fun i d0 h => ?_) (fun i h => ?_), ⟨fun a o e n t => ⟨(P'.obj a o e n t).1, fun i z => (P'.obj a o e n t).2 i (hm z).2⟩, P'.frz, P'.tbl⟩, fun a z => z.elim .inl fun ⟨i, z⟩ => .inr ⟨i, (hm z).2⟩⟩
    · rw [pk] at h
      by_cases c : io = some i ∧ i < np
      · rw [if_pos c] at h
        have hv : vs[i]? = some vs[i] := List.getElem?_eq_getElem (by omega)
        exact ⟨h, by rw [f' i c.1, st_app hv, st_map, hv]; rfl, if_pos c⟩
      · rw [if_neg c] at h; cases h
    · rw [pk] at h
      by_cases c : io = some i ∧ i < np
      · rw [if_pos c] at h ⊢; exact E'.emp i h
      · exact if_neg c
  refine ⟨G, _, fp, E1, ?_⟩
  cases hr : exs sg C body (xs.map some ++ List.replicate (nn - np) none) with
  | rt d' r' =>
    rw [hr] at q0
    cases q0
    intro v σ' H' fp' ff E' hG z P' nw f'
    obtain ⟨fp'', E2, P2, sub⟩ := back E' f' P'
    exact k v H' fp'' ff E2 hG (z.keep (keep_self sub) fun _ _ => rfl) P2 nw
  | nx r' =>
    rw [hr] at q0
    cases q0
    intro σ' H' fp' E' P' f'
    obtain ⟨fp'', E2, P2, sub⟩ := back E' f' P'
    exact k .non H' fp'' [] E2.toNil (fun a ha => by simp at ha) (.z .non) P2 fun a ha => by simp at ha
  | exn => rw [hr] at q0; cases q0
  | bk => rw [hr] at q0; cases q0
  | ct => rw [hr] at q0; cases q0
  | bad => rw [hr] at q0; cases q0
theorem levels (hds : ∀ i d, ds[i]? = some d → DefK K mg base tb d (i ∈ kwk)) (hsc : ∀ d ∈ ds, C8.scC d.N d.ps (C8.fnScope d.st) = true) (hnp : ∀ d ∈ ds, d.ps.length ≤ d.N.length) (hmg : ∀ x ∈ bltN, mg x = none) :
    ∀ (k i : Nat) (d : DRec), ds[i]? = some d → CalX P w K mg base tb (i ∈ kwk) k d (callN (tabOf ds kwk) k i)
  | 0, i, d, hd => by
    obtain ⟨f, oc, od, dV, kV, doc, pm, an, cdv, ct, osl, lk, hcd, hm, hk, hb, hkb, _⟩ := (hds i d hd).ex
    refine ⟨f, _, ⟨fun vs H Q E h => h.1, fun A outer s H args us vs Q E hr e0 hbb hv hs => ?_⟩, hm, hk, hb, hkb, _, _, _, lk⟩
    obtain ⟨_, G, xs, fp, d0, fin, _, q, _⟩ := hs
    cases q
  | k + 1, i, d, hd => by
    have ih := levels hds hsc hnp hmg k
    obtain ⟨f, oc, od, dV, kV, doc, pm, an, cdv, ct, osl, lk, hcd, hm, hk, hb, hkb, hgen⟩ := (hds i d hd).ex
    have S := C8.fnScope_by (hsc d (List.mem_of_getElem? hd))
    have hfn : (tabOf ds kwk)[i]? = some (fnOfD ds kwk d) := by unfold tabOf; rw [List.getElem?_map, hd]; rfl
    have hrun : callN (tabOf ds kwk) (k + 1) i = runF (sigOf (tabOf ds kwk)) (callN (tabOf ds kwk) k) (fnOfD ds kwk d) := by
      funext xs
      show (match (tabOf ds kwk)[i]? with | some fn => runF (sigOf (tabOf ds kwk)) (callN (tabOf ds kwk) k) fn xs | none => .bad) = _
      rw [hfn]
    refine ⟨f, _, fn_of lk hcd S (fun vs H Q E h => h.1) fun A outer s H vs Q E hr h => ?_, hm, hk, hb, hkb, _, _, _, lk⟩
    rw [hrun] at h
    have hx : XOk tb (cxOf C8.CX0 P w K mg base d.N d.x (C8.fnScope d.st) f cdv A outer s H E).nox (infOf ds kwk d) (sigOf (tabOf ds kwk)) (callN (tabOf ds kwk) k) := by
      have sg_is : ∀ j e, ds[j]? = some e → sigOf (tabOf ds kwk) j = e.io := fun j e he => by
        unfold sigOf tabOf
        rw [List.getElem?_map, he]; rfl
      have cal : ∀ j e, ds[j]? = some e → (∀ xs d0 fin, callN (tabOf ds kwk) k j xs = .ok d0 fin → xs.length = e.ps.length ∧ ∀ l, sigOf (tabOf ds kwk) j ≠ some l → peek fin l = none) := fun j e he xs d0 fin hq => by
        obtain ⟨fn, h1, h2, h3⟩ := callN_fin _ k j xs d0 fin hq
        have h4 : fn = fnOfD ds kwk e := by
          unfold tabOf at h1
          rw [List.getElem?_map, he] at h1
          exact (Option.some.inj h1).symm
        subst h4
        exact ⟨h2, fun l hl => h3 l (by rw [sg_is j e he] at hl; exact hl)⟩
      refine ⟨rfl, S.nd, rfl, rfl, fun _ _ => rfl, S.kind, rfl, hr.units, hmg, fun j x hj => ?_, fun j x ps hj hps hkw => ?_, fun hg => ?_⟩
      · have hj' : (ds.map DRec.x)[j]? = some x := hj
        rw [List.getElem?_map] at hj'
        obtain ⟨e, he, rfl⟩ := Option.map_eq_some_iff.mp hj'
        obtain ⟨f2, fd2, F2, m2, k2, b2, _⟩ := ih j e he
        refine ⟨k, e.ps.length, hr, ⟨f2, fd2, e.ps, [], ?_, m2, k2, .all b2, .nil⟩, cal j e he⟩
        rw [sg_is j e he]; exact F2
      · have hj' : (ds.map DRec.x)[j]? = some x := hj
        rw [List.getElem?_map] at hj'
        obtain ⟨e, he, rfl⟩ := Option.map_eq_some_iff.mp hj'
        have hps' : (ds.map DRec.ps)[j]? = some ps := hps
        rw [List.getElem?_map, he] at hps'
        cases hps'
        obtain ⟨f2, fd2, F2, m2, k2, b2, kb2, _⟩ := ih j e he
        refine ⟨k, e.ps.length, f2, fd2, hr, ?_, m2, k2, kb2 hkw, cal j e he⟩
        rw [sg_is j e he]; exact F2
      · obtain ⟨c, P0, rfl, TB, hP⟩ := hgen hg
        exact ⟨c, P0, k, hr, TB, rfl, hP⟩
    have hss : ∀ sts : List Stmt, PSs (cxOf C8.CX0 P w K mg base d.N d.x (C8.fnScope d.st) f cdv A outer s H E).nox sts (RdS K tb d.io (exs (sigOf (tabOf ds kwk)) (callN (tabOf ds kwk) k) (sts.map (erS FUEL (infOf ds kwk d))))) := fun sts => by
      induction sts with
      | nil => exact ss_nil
      | cons a b ih => exact ss_cons (snd_S FUEL _ _ hx a) ih
    exact ⟨_, (hss (C8.fnBody d.st)).nox, body_go rfl (hnp d (List.mem_of_getElem? hd)) h⟩
end
end Sf
end
section
set_option Elab.async false
set_option maxRecDepth 100000
set_option linter.all false
/-! SfWalk: from the module's top to the law's row. -/
namespace Sf
open PySem PySem.Spec PyProof.Rows L2

/-- what the written part tells of a def; cd: its code object -/
structure DefF (K : PySem.W.Frag) (mg : Str → Option Value) (d : DRec) (kw : Bool) (cd : Value) : Prop where
  ex : ∃ (f : Addr) (oc : Value) (od : Option Addr) (dV kV doc pm : Value) (an : Option Addr) (ct : Value) (osl : Array (Option Value)),
    K.lookup f = some ⟨oc, od, .func (PySem.W.fnOf d.x d.x (C8.fnArgs d.st) (C8.fnBody d.st) (C8.fnScope d.st) dV kV doc pm an cd ct), osl⟩ ∧ PySem.W.codeIn K cd d.x = true ∧ mg d.x = some (.ref f) ∧ PySem.W.keepIn K (.ref f) = true ∧
    (∀ us : List Value, us.length = d.ps.length → bindArgs (PySem.W.fnOf d.x d.x (C8.fnArgs d.st) (C8.fnBody d.st) (C8.fnScope d.st) dV kV doc pm an cd ct) ⟨us, []⟩ = pure (d.ps.zip us)) ∧
    (kw = true → KBinds K (PySem.W.fnOf d.x d.x (C8.fnArgs d.st) (C8.fnBody d.st) (C8.fnScope d.st) dV kV doc pm an cd ct) d.ps d.ps kwG kwV)
theorem defF_mk {K : PySem.W.Frag} {h : Heap} {mg : Str → Option Value} {d : DRec} {kw : Bool} {cd : Value} {f : Addr} {oc : Value} {od : Option Addr} {kV doc pm : Value} {an : Option Addr} {ct : Value} {osl : Array (Option Value)} (X : K.In h) (G : h.Ns mainGlobals mg)
    (hb : ∀ (kV doc pm : Value) (an : Option Addr) (cd ct : Value) (us : List Value), us.length = d.ps.length → bindArgs (PySem.W.fnOf d.x d.x (C8.fnArgs d.st) (C8.fnBody d.st) (C8.fnScope d.st) .none kV doc pm an cd ct) ⟨us, []⟩ = pure (d.ps.zip us))
    (hk : kw = true → d.ps ≠ [] ∧ ∀ (kV doc pm : Value) (an : Option Addr) (cd ct : Value) (ws : List Value), ws.length = d.ps.length → bindArgs (PySem.W.fnOf d.x d.x (C8.fnArgs d.st) (C8.fnBody d.st) (C8.fnScope d.st) .none kV doc pm an cd ct) ⟨[], d.ps.zip ws⟩ = pure (d.ps.zip ws))
    (a : PySem.W.nsIn K mainGlobals d.x = some (some (.ref f))) (l : K.lookup f = some ⟨oc, od, .func (PySem.W.fnOf d.x d.x (C8.fnArgs d.st) (C8.fnBody d.st) (C8.fnScope d.st) .none kV doc pm an cd ct), osl⟩) (c : PySem.W.codeIn K cd d.x = true) (k : PySem.W.keepIn K (.ref f) = true) : DefF K mg d kw cd := by
  refine ⟨f, oc, od, .none, kV, doc, pm, an, ct, osl, l, c, PySem.W.mg_of X G a, k, hb kV doc pm an cd ct, fun hkw => ⟨fun s us ws _ hl => ?_, fun {vs us zs ws} r rz => ?_⟩⟩
  · obtain ⟨h1, h2⟩ := hk hkw
    cases us with
    | nil => exact .of_eq (h2 kV doc pm an cd ct ws hl)
    | cons u us =>
      have hl' : ([] : List Value).length = d.ps.length := hl
      exact absurd (List.length_eq_zero_iff.mp hl'.symm) h1
  · cases r with
    | nil => exact rz
    | cons => exact .nil
theorem DefF.defK {K : PySem.W.Frag} {mg : Str → Option Value} {base : Heap} {tb : List Addr} {d : DRec} {kw : Bool} {q : Prop} {cd : Value} (h : DefF K mg d kw cd) (hq : q → kw = true) (hg : d.gen = true → ∃ c P, cd = .ref c ∧ GxR.TabB base mg c P ∧ P ∈ tb) : DefK K mg base tb d q := by
  obtain ⟨f, oc, od, dV, kV, doc, pm, an, ct, osl, h1, h2, h3, h4, h5, h6⟩ := h.ex
  exact ⟨f, oc, od, dV, kV, doc, pm, an, cd, ct, osl, h1, h2, h3, h4, h5, fun z => h6 (hq z), hg⟩
theorem ints_rz {K : PySem.W.Frag} {H : Hp} {O : Addr → Prop} : ∀ ns : List Int, RZs K H O (ns.map .int) (ns.map V.int)
  | [] => .nil
  | n :: ns => .cons (.int n) (ints_rz ns)
/-- the law's row, with one table of code objects -/
theorem walkT {l : PySem.W.OpenLaw} {k : Nat} {q : Program} {loose : List Str} {XP : (Str → Option Value) → Heap → Prop} {YP : World → Heap → Prop} {d : DefRec} {K : Params → PySem.W.Frag} {x xg : Str} {run : List D → Out D}
    (hn : l.most = some 63) (hdf : d.params.defaults = []) (hr : Room k callerA) (hY : ∀ (w : World) (h : Heap), YP w h → (K w.params).In h) (hrec : ((recsOf q).find? fun e => e.name == xg).isSome = true)
    (hrun : ∀ ns : List Int, ns.length ≤ 63 → ∃ fin, run [.scr (ns.map .int)] = .ok (.bl true) fin)
    (F : ∀ (w : World) (mg : Str → Option Value) (fa : Addr) (h : Heap), (K w.params).In h → h.Ns mainGlobals mg → mg d.name = some (.ref fa) →
      ∃ (fd : FuncData) (c P : Addr), PySem.W.tabIn (K w.params) xg = some (c, P) ∧ (K w.params).lookup P = none ∧ (∀ (s : Shared) (u : Value), BindsTo s fd ⟨[u], []⟩ [(x, u)]) ∧
        ∀ base : Heap, (K w.params).In base → base.Ns mainGlobals mg → GxR.TabB base mg c P → FnOk l.prog w (K w.params) mg base C8.CX0 k fa fd [x] (spF (K w.params) [P] 1 none run)) :
    PySem.W.WalkO q loose XP YP l.row.toRowW d [] (fun f vs => PySem.call f vs) := by
  refine Att.attach_callB hn hdf fun w s₀ s₁ mg mb fa o pm cd doc a vs ns G Y ho hd hcd hmg hobj hints hlen hbits hg => ?_
  obtain ⟨dH, hrec⟩ := Option.isSome_iff_exists.mp hrec
  have KX := hY w _ Y
  obtain ⟨fd, c, P, ht, hP, hb, hF⟩ := F w mg fa _ KX G.T.g hmg
  obtain ⟨hC, hT⟩ := PySem.W.tab_of G.T KX hrec ht
  refine LamX.law_callTs (cs := [(c, P)]) KX G.T.g G.T.b G.T.builtins G.T.nolimit hg (fun p hp => ?_) (fun p hp => ?_) (fun p hp => ?_) G.T.bmain hobj hints (Nat.le_trans hlen (by decide)) hr (fun base hK hN hTB => hF base hK hN (let t := hTB (c, P) List.mem_cons_self; ⟨t.code, t.bm, t.gP⟩)) hb (fun H hH hS => ?_) fun H e s' z => z
  · rw [List.mem_singleton.mp hp]; exact hT
  · rw [List.mem_singleton.mp hp]; exact hP
  · rw [List.mem_singleton.mp hp]; exact hC
  · obtain ⟨fin, hfin⟩ := hrun ns hlen
    have hHP : H P = some (.tbl #[]) := hH (c, P) List.mem_cons_self
    have fro : Fro (K w.params) H (Own (fun _ => False) fun _ => []) a (ns.map V.int) := by
      rcases hS with (h | h) | h
      · exact .inr (.inl ⟨fun z => z.elim id fun ⟨_, z⟩ => by simp at z, h⟩)
      · exact .inl h
      · exact .inr (.inr h)
    refine ⟨rfl, fun _ => False, [.scr (ns.map .int)], fun _ => [], .bl true, fin, ⟨rfl, fun i d0 h => ?_, fun _ _ => rfl, fun _ _ _ _ h => by simp at h, fun _ _ h => by simp at h, fun _ z => z.elim, fun Q hQ => ?_⟩, hfin, fun _ _ => rfl, fun v H' fp' f E hG z P' nw => (z.zof rfl).1.bl_inv⟩
    · rw [peek_map] at h
      cases i with
      | zero =>
        cases h
        exact ⟨.ref a, rfl, .z (.scr fro (by rw [List.length_map]; exact Nat.le_trans hlen (by decide)) (ints_rz ns))⟩
      | succ i => simp at h
    · rw [List.mem_singleton.mp hQ]
      exact ⟨#[], hHP, trivial⟩
end Sf
end
section
set_option Elab.async false
set_option maxRecDepth 100000
set_option linter.all false
namespace K84
open PySem PySem.Spec PyProof.Rows L2 Sf
def top (i : Nat) : Stmt := PySem.Challenge.pw_seldomfalse_k84_lower_and_nested.main.body.getD i (.Pass ⟨0, 0, 0, 0⟩)
def r_is_number : DRec := ⟨"is_number", top 1, ["value"], ["value"], none, false⟩
def r_nexts_of : DRec := ⟨"nexts_of", top 3, ["node"], ["node", "kind"], none, false⟩
def r_walk : DRec := ⟨"walk", top 8, ["plan", "row"], ["plan", "row", "nodes", "at", "used", "told", "node", "leads"], none, false⟩
def r_lower : DRec := ⟨"lower", top 10, ["plans", "marks", "row"], ["plans", "marks", "row", "number", "plan"], none, false⟩
def r_hopes : DRec := ⟨"_hopes", top 11, ["nodes"], ["nodes", "may", "sure", "number", "nexts", "after"], none, true⟩
def r_follows : DRec := ⟨"_follows", top 12, ["first", "second"], ["first", "second", "first_may", "first_sure", "second_may", "second_sure", "seen", "waiting", "pair", "mine", "theirs", "after", "other"], none, false⟩
def r_nested : DRec := ⟨"nested", top 13, ["plans"], ["plans", "number"], none, false⟩
def r_law_pool : DRec := ⟨"_law_pool", top 15, ["script"], ["script"], none, false⟩
def r_law_draw : DRec := ⟨"_law_draw", top 16, ["pool", "many"], ["pool", "many", "cell", "digit", "mixed"], some 0, false⟩
def r_law_pick : DRec := ⟨"_law_pick", top 17, ["pool", "things"], ["pool", "things"], some 0, false⟩
def r_law_shuffled : DRec := ⟨"_law_shuffled", top 18, ["pool", "things"], ["pool", "things", "left", "k"], some 0, false⟩
def r_law_same : DRec := ⟨"_law_same", top 19, ["told", "due"], ["told", "due", "k"], none, false⟩
def r_law_fraction : DRec := ⟨"_law_fraction", top 20, ["over", "under"], ["over", "under", "one", "other", "turn", "sign"], none, false⟩
def r_law_chance : DRec := ⟨"_law_chance", top 21, ["pool"], ["pool", "under"], some 0, false⟩
def r_law_tree : DRec := ⟨"_law_tree", top 22, ["pool", "arms", "claims", "people", "draws", "deep"], ["pool", "arms", "claims", "people", "draws", "deep", "kind", "some", "many", "claim", "k", "one"], some 0, false⟩
def r_law_nodes : DRec := ⟨"_law_nodes", top 23, ["tree", "nodes"], ["tree", "nodes", "at", "one"], some 1, false⟩
def r_law_plan : DRec := ⟨"_law_plan", top 24, ["arms", "claims", "tree"], ["arms", "claims", "tree", "nodes"], none, false⟩
def r_law_names : DRec := ⟨"_law_names", top 25, ["pool", "many"], ["pool", "many", "found", "k", "name"], some 0, false⟩
def r_law_bare : DRec := ⟨"_law_bare", top 26, ["pool", "arms", "people", "deep"], ["pool", "arms", "people", "deep"], some 0, false⟩
def r_law_ends : DRec := ⟨"_law_ends", top 27, ["tree", "row"], ["tree", "row", "nexts", "found", "k"], none, false⟩
def r_law_with_tells : DRec := ⟨"_law_with_tells", top 28, ["pool", "tree", "tells"], ["pool", "tree", "tells", "many", "mine", "left", "nexts", "made", "one", "below"], some 0, false⟩
def r_law_marks : DRec := ⟨"_law_marks", top 29, ["pool", "many"], ["pool", "many", "under", "numbers", "number"], some 0, false⟩
def r_law : DRec := ⟨"law", top 30, ["script"], ["script", "pool", "turn", "arms", "many", "tree", "rows", "names", "kind", "plans", "table", "heights", "odd", "plan_odd", "k", "tells", "made", "left", "marks", "is_nested", "j", "own", "due", "row"], none, false⟩
def ds : List DRec := [r_is_number, r_nexts_of, r_walk, r_lower, r_hopes, r_follows, r_nested, r_law_pool, r_law_draw, r_law_pick, r_law_shuffled, r_law_same, r_law_fraction, r_law_chance, r_law_tree, r_law_nodes, r_law_plan, r_law_names, r_law_bare, r_law_ends, r_law_with_tells, r_law_marks, r_law]
def kwk : List Nat := [3, 6]
end K84
namespace K84
open PySem PySem.Spec PyProof.Rows L2 Sf
theorem b_is_number (kV doc pm : Value) (an : Option Addr) (cd ct : Value) (us : List Value) (hl : us.length = r_is_number.ps.length) : bindArgs (PySem.W.fnOf r_is_number.x r_is_number.x (C8.fnArgs r_is_number.st) (C8.fnBody r_is_number.st) (C8.fnScope r_is_number.st) .none kV doc pm an cd ct) ⟨us, []⟩ = pure (r_is_number.ps.zip us) := match us, hl with | [_], _ => rfl
theorem b_nexts_of (kV doc pm : Value) (an : Option Addr) (cd ct : Value) (us : List Value) (hl : us.length = r_nexts_of.ps.length) : bindArgs (PySem.W.fnOf r_nexts_of.x r_nexts_of.x (C8.fnArgs r_nexts_of.st) (C8.fnBody r_nexts_of.st) (C8.fnScope r_nexts_of.st) .none kV doc pm an cd ct) ⟨us, []⟩ = pure (r_nexts_of.ps.zip us) := match us, hl with | [_], _ => rfl
theorem b_walk (kV doc pm : Value) (an : Option Addr) (cd ct : Value) (us : List Value) (hl : us.length = r_walk.ps.length) : bindArgs (PySem.W.fnOf r_walk.x r_walk.x (C8.fnArgs r_walk.st) (C8.fnBody r_walk.st) (C8.fnScope r_walk.st) .none kV doc pm an cd ct) ⟨us, []⟩ = pure (r_walk.ps.zip us) := match us, hl with | [_, _], _ => rfl
theorem b_lower (kV doc pm : Value) (an : Option Addr) (cd ct : Value) (us : List Value) (hl : us.length = r_lower.ps.length) : bindArgs (PySem.W.fnOf r_lower.x r_lower.x (C8.fnArgs r_lower.st) (C8.fnBody r_lower.st) (C8.fnScope r_lower.st) .none kV doc pm an cd ct) ⟨us, []⟩ = pure (r_lower.ps.zip us) := match us, hl with | [_, _, _], _ => rfl
theorem k_lower (_ : true = true) : r_lower.ps ≠ [] ∧ ∀ (kV doc pm : Value) (an : Option Addr) (cd ct : Value) (ws : List Value), ws.length = r_lower.ps.length → bindArgs (PySem.W.fnOf r_lower.x r_lower.x (C8.fnArgs r_lower.st) (C8.fnBody r_lower.st) (C8.fnScope r_lower.st) .none kV doc pm an cd ct) ⟨[], r_lower.ps.zip ws⟩ = pure (r_lower.ps.zip ws) := ⟨by decide, fun kV doc pm an cd ct ws hl => match ws, hl with | [_, _, _], _ => rfl⟩
theorem b_hopes (kV doc pm : Value) (an : Option Addr) (cd ct : Value) (us : List Value) (hl : us.length = r_hopes.ps.length) : bindArgs (PySem.W.fnOf r_hopes.x r_hopes.x (C8.fnArgs r_hopes.st) (C8.fnBody r_hopes.st) (C8.fnScope r_hopes.st) .none kV doc pm an cd ct) ⟨us, []⟩ = pure (r_hopes.ps.zip us) := match us, hl with | [_], _ => rfl
theorem b_follows (kV doc pm : Value) (an : Option Addr) (cd ct : Value) (us : List Value) (hl : us.length = r_follows.ps.length) : bindArgs (PySem.W.fnOf r_follows.x r_follows.x (C8.fnArgs r_follows.st) (C8.fnBody r_follows.st) (C8.fnScope r_follows.st) .none kV doc pm an cd ct) ⟨us, []⟩ = pure (r_follows.ps.zip us) := match us, hl with | [_, _], _ => rfl
theorem b_nested (kV doc pm : Value) (an : Option Addr) (cd ct : Value) (us : List Value) (hl : us.length = r_nested.ps.length) : bindArgs (PySem.W.fnOf r_nested.x r_nested.x (C8.fnArgs r_nested.st) (C8.fnBody r_nested.st) (C8.fnScope r_nested.st) .none kV doc pm an cd ct) ⟨us, []⟩ = pure (r_nested.ps.zip us) := match us, hl with | [_], _ => rfl
theorem k_nested (_ : true = true) : r_nested.ps ≠ [] ∧ ∀ (kV doc pm : Value) (an : Option Addr) (cd ct : Value) (ws : List Value), ws.length = r_nested.ps.length → bindArgs (PySem.W.fnOf r_nested.x r_nested.x (C8.fnArgs r_nested.st) (C8.fnBody r_nested.st) (C8.fnScope r_nested.st) .none kV doc pm an cd ct) ⟨[], r_nested.ps.zip ws⟩ = pure (r_nested.ps.zip ws) := ⟨by decide, fun kV doc pm an cd ct ws hl => match ws, hl with | [_], _ => rfl⟩
theorem b_law_pool (kV doc pm : Value) (an : Option Addr) (cd ct : Value) (us : List Value) (hl : us.length = r_law_pool.ps.length) : bindArgs (PySem.W.fnOf r_law_pool.x r_law_pool.x (C8.fnArgs r_law_pool.st) (C8.fnBody r_law_pool.st) (C8.fnScope r_law_pool.st) .none kV doc pm an cd ct) ⟨us, []⟩ = pure (r_law_pool.ps.zip us) := match us, hl with | [_], _ => rfl
theorem b_law_draw (kV doc pm : Value) (an : Option Addr) (cd ct : Value) (us : List Value) (hl : us.length = r_law_draw.ps.length) : bindArgs (PySem.W.fnOf r_law_draw.x r_law_draw.x (C8.fnArgs r_law_draw.st) (C8.fnBody r_law_draw.st) (C8.fnScope r_law_draw.st) .none kV doc pm an cd ct) ⟨us, []⟩ = pure (r_law_draw.ps.zip us) := match us, hl with | [_, _], _ => rfl
theorem b_law_pick (kV doc pm : Value) (an : Option Addr) (cd ct : Value) (us : List Value) (hl : us.length = r_law_pick.ps.length) : bindArgs (PySem.W.fnOf r_law_pick.x r_law_pick.x (C8.fnArgs r_law_pick.st) (C8.fnBody r_law_pick.st) (C8.fnScope r_law_pick.st) .none kV doc pm an cd ct) ⟨us, []⟩ = pure (r_law_pick.ps.zip us) := match us, hl with | [_, _], _ => rfl
theorem b_law_shuffled (kV doc pm : Value) (an : Option Addr) (cd ct : Value) (us : List Value) (hl : us.length = r_law_shuffled.ps.length) : bindArgs (PySem.W.fnOf r_law_shuffled.x r_law_shuffled.x (C8.fnArgs r_law_shuffled.st) (C8.fnBody r_law_shuffled.st) (C8.fnScope r_law_shuffled.st) .none kV doc pm an cd ct) ⟨us, []⟩ = pure (r_law_shuffled.ps.zip us) := match us, hl with | [_, _], _ => rfl
theorem b_law_same (kV doc pm : Value) (an : Option Addr) (cd ct : Value) (us : List Value) (hl : us.length = r_law_same.ps.length) : bindArgs (PySem.W.fnOf r_law_same.x r_law_same.x (C8.fnArgs r_law_same.st) (C8.fnBody r_law_same.st) (C8.fnScope r_law_same.st) .none kV doc pm an cd ct) ⟨us, []⟩ = pure (r_law_same.ps.zip us) := match us, hl with | [_, _], _ => rfl
theorem b_law_fraction (kV doc pm : Value) (an : Option Addr) (cd ct : Value) (us : List Value) (hl : us.length = r_law_fraction.ps.length) : bindArgs (PySem.W.fnOf r_law_fraction.x r_law_fraction.x (C8.fnArgs r_law_fraction.st) (C8.fnBody r_law_fraction.st) (C8.fnScope r_law_fraction.st) .none kV doc pm an cd ct) ⟨us, []⟩ = pure (r_law_fraction.ps.zip us) := match us, hl with | [_, _], _ => rfl
theorem b_law_chance (kV doc pm : Value) (an : Option Addr) (cd ct : Value) (us : List Value) (hl : us.length = r_law_chance.ps.length) : bindArgs (PySem.W.fnOf r_law_chance.x r_law_chance.x (C8.fnArgs r_law_chance.st) (C8.fnBody r_law_chance.st) (C8.fnScope r_law_chance.st) .none kV doc pm an cd ct) ⟨us, []⟩ = pure (r_law_chance.ps.zip us) := match us, hl with | [_], _ => rfl
theorem b_law_tree (kV doc pm : Value) (an : Option Addr) (cd ct : Value) (us : List Value) (hl : us.length = r_law_tree.ps.length) : bindArgs (PySem.W.fnOf r_law_tree.x r_law_tree.x (C8.fnArgs r_law_tree.st) (C8.fnBody r_law_tree.st) (C8.fnScope r_law_tree.st) .none kV doc pm an cd ct) ⟨us, []⟩ = pure (r_law_tree.ps.zip us) := match us, hl with | [_, _, _, _, _, _], _ => rfl
theorem b_law_nodes (kV doc pm : Value) (an : Option Addr) (cd ct : Value) (us : List Value) (hl : us.length = r_law_nodes.ps.length) : bindArgs (PySem.W.fnOf r_law_nodes.x r_law_nodes.x (C8.fnArgs r_law_nodes.st) (C8.fnBody r_law_nodes.st) (C8.fnScope r_law_nodes.st) .none kV doc pm an cd ct) ⟨us, []⟩ = pure (r_law_nodes.ps.zip us) := match us, hl with | [_, _], _ => rfl
theorem b_law_plan (kV doc pm : Value) (an : Option Addr) (cd ct : Value) (us : List Value) (hl : us.length = r_law_plan.ps.length) : bindArgs (PySem.W.fnOf r_law_plan.x r_law_plan.x (C8.fnArgs r_law_plan.st) (C8.fnBody r_law_plan.st) (C8.fnScope r_law_plan.st) .none kV doc pm an cd ct) ⟨us, []⟩ = pure (r_law_plan.ps.zip us) := match us, hl with | [_, _, _], _ => rfl
theorem b_law_names (kV doc pm : Value) (an : Option Addr) (cd ct : Value) (us : List Value) (hl : us.length = r_law_names.ps.length) : bindArgs (PySem.W.fnOf r_law_names.x r_law_names.x (C8.fnArgs r_law_names.st) (C8.fnBody r_law_names.st) (C8.fnScope r_law_names.st) .none kV doc pm an cd ct) ⟨us, []⟩ = pure (r_law_names.ps.zip us) := match us, hl with | [_, _], _ => rfl
theorem b_law_bare (kV doc pm : Value) (an : Option Addr) (cd ct : Value) (us : List Value) (hl : us.length = r_law_bare.ps.length) : bindArgs (PySem.W.fnOf r_law_bare.x r_law_bare.x (C8.fnArgs r_law_bare.st) (C8.fnBody r_law_bare.st) (C8.fnScope r_law_bare.st) .none kV doc pm an cd ct) ⟨us, []⟩ = pure (r_law_bare.ps.zip us) := match us, hl with | [_, _, _, _], _ => rfl
theorem b_law_ends (kV doc pm : Value) (an : Option Addr) (cd ct : Value) (us : List Value) (hl : us.length = r_law_ends.ps.length) : bindArgs (PySem.W.fnOf r_law_ends.x r_law_ends.x (C8.fnArgs r_law_ends.st) (C8.fnBody r_law_ends.st) (C8.fnScope r_law_ends.st) .none kV doc pm an cd ct) ⟨us, []⟩ = pure (r_law_ends.ps.zip us) := match us, hl with | [_, _], _ => rfl
theorem b_law_with_tells (kV doc pm : Value) (an : Option Addr) (cd ct : Value) (us : List Value) (hl : us.length = r_law_with_tells.ps.length) : bindArgs (PySem.W.fnOf r_law_with_tells.x r_law_with_tells.x (C8.fnArgs r_law_with_tells.st) (C8.fnBody r_law_with_tells.st) (C8.fnScope r_law_with_tells.st) .none kV doc pm an cd ct) ⟨us, []⟩ = pure (r_law_with_tells.ps.zip us) := match us, hl with | [_, _, _], _ => rfl
theorem b_law_marks (kV doc pm : Value) (an : Option Addr) (cd ct : Value) (us : List Value) (hl : us.length = r_law_marks.ps.length) : bindArgs (PySem.W.fnOf r_law_marks.x r_law_marks.x (C8.fnArgs r_law_marks.st) (C8.fnBody r_law_marks.st) (C8.fnScope r_law_marks.st) .none kV doc pm an cd ct) ⟨us, []⟩ = pure (r_law_marks.ps.zip us) := match us, hl with | [_, _], _ => rfl
theorem b_law (kV doc pm : Value) (an : Option Addr) (cd ct : Value) (us : List Value) (hl : us.length = r_law.ps.length) : bindArgs (PySem.W.fnOf r_law.x r_law.x (C8.fnArgs r_law.st) (C8.fnBody r_law.st) (C8.fnScope r_law.st) .none kV doc pm an cd ct) ⟨us, []⟩ = pure (r_law.ps.zip us) := match us, hl with | [_], _ => rfl
theorem all_mk {l : PySem.W.OpenLaw} {w : World} {K : PySem.W.Frag} {h : Heap} {mg : Str → Option Value} {fa c P : Addr} (X : K.In h) (G : h.Ns mainGlobals mg) (hfa : mg "law" = some (.ref fa))
    (ht : PySem.W.tabIn K "_hopes" = some (c, P)) (hp : K.lookup P = none)
    {f0 : Addr} {od0 an0 : Option Addr} {sl0 : Array (Option Value)} {oc0 kV0 dc0 pm0 cd0 ct0 : Value}
    {f1 : Addr} {od1 an1 : Option Addr} {sl1 : Array (Option Value)} {oc1 kV1 dc1 pm1 cd1 ct1 : Value}
    {f2 : Addr} {od2 an2 : Option Addr} {sl2 : Array (Option Value)} {oc2 kV2 dc2 pm2 cd2 ct2 : Value}
    {f3 : Addr} {od3 an3 : Option Addr} {sl3 : Array (Option Value)} {oc3 kV3 dc3 pm3 cd3 ct3 : Value}
    {f4 : Addr} {od4 an4 : Option Addr} {sl4 : Array (Option Value)} {oc4 kV4 dc4 pm4 ct4 : Value}
    {f5 : Addr} {od5 an5 : Option Addr} {sl5 : Array (Option Value)} {oc5 kV5 dc5 pm5 cd5 ct5 : Value}
    {f6 : Addr} {od6 an6 : Option Addr} {sl6 : Array (Option Value)} {oc6 kV6 dc6 pm6 cd6 ct6 : Value}
    {f7 : Addr} {od7 an7 : Option Addr} {sl7 : Array (Option Value)} {oc7 kV7 dc7 pm7 cd7 ct7 : Value}
    {f8 : Addr} {od8 an8 : Option Addr} {sl8 : Array (Option Value)} {oc8 kV8 dc8 pm8 cd8 ct8 : Value}
    {f9 : Addr} {od9 an9 : Option Addr} {sl9 : Array (Option Value)} {oc9 kV9 dc9 pm9 cd9 ct9 : Value}
    {f10 : Addr} {od10 an10 : Option Addr} {sl10 : Array (Option Value)} {oc10 kV10 dc10 pm10 cd10 ct10 : Value}
    {f11 : Addr} {od11 an11 : Option Addr} {sl11 : Array (Option Value)} {oc11 kV11 dc11 pm11 cd11 ct11 : Value}
    {f12 : Addr} {od12 an12 : Option Addr} {sl12 : Array (Option Value)} {oc12 kV12 dc12 pm12 cd12 ct12 : Value}
    {f13 : Addr} {od13 an13 : Option Addr} {sl13 : Array (Option Value)} {oc13 kV13 dc13 pm13 cd13 ct13 : Value}
    {f14 : Addr} {od14 an14 : Option Addr} {sl14 : Array (Option Value)} {oc14 kV14 dc14 pm14 cd14 ct14 : Value}
    {f15 : Addr} {od15 an15 : Option Addr} {sl15 : Array (Option Value)} {oc15 kV15 dc15 pm15 cd15 ct15 : Value}
    {f16 : Addr} {od16 an16 : Option Addr} {sl16 : Array (Option Value)} {oc16 kV16 dc16 pm16 cd16 ct16 : Value}
    {f17 : Addr} {od17 an17 : Option Addr} {sl17 : Array (Option Value)} {oc17 kV17 dc17 pm17 cd17 ct17 : Value}
    {f18 : Addr} {od18 an18 : Option Addr} {sl18 : Array (Option Value)} {oc18 kV18 dc18 pm18 cd18 ct18 : Value}
    {f19 : Addr} {od19 an19 : Option Addr} {sl19 : Array (Option Value)} {oc19 kV19 dc19 pm19 cd19 ct19 : Value}
    {f20 : Addr} {od20 an20 : Option Addr} {sl20 : Array (Option Value)} {oc20 kV20 dc20 pm20 cd20 ct20 : Value}
    {f21 : Addr} {od21 an21 : Option Addr} {sl21 : Array (Option Value)} {oc21 kV21 dc21 pm21 cd21 ct21 : Value}
    {f22 : Addr} {od22 an22 : Option Addr} {sl22 : Array (Option Value)} {oc22 kV22 dc22 pm22 cd22 ct22 : Value}
    (a0 : PySem.W.nsIn K mainGlobals "is_number" = some (some (.ref f0))) (l0 : K.lookup f0 = some ⟨oc0, od0, .func (PySem.W.fnOf "is_number" "is_number" (C8.fnArgs (top 1)) (C8.fnBody (top 1)) (C8.fnScope (top 1)) .none kV0 dc0 pm0 an0 (cd0) ct0), sl0⟩) (c0 : PySem.W.codeIn K (cd0) "is_number" = true) (k0 : PySem.W.keepIn K (.ref f0) = true)
    (a1 : PySem.W.nsIn K mainGlobals "nexts_of" = some (some (.ref f1))) (l1 : K.lookup f1 = some ⟨oc1, od1, .func (PySem.W.fnOf "nexts_of" "nexts_of" (C8.fnArgs (top 3)) (C8.fnBody (top 3)) (C8.fnScope (top 3)) .none kV1 dc1 pm1 an1 (cd1) ct1), sl1⟩) (c1 : PySem.W.codeIn K (cd1) "nexts_of" = true) (k1 : PySem.W.keepIn K (.ref f1) = true)
    (a2 : PySem.W.nsIn K mainGlobals "walk" = some (some (.ref f2))) (l2 : K.lookup f2 = some ⟨oc2, od2, .func (PySem.W.fnOf "walk" "walk" (C8.fnArgs (top 8)) (C8.fnBody (top 8)) (C8.fnScope (top 8)) .none kV2 dc2 pm2 an2 (cd2) ct2), sl2⟩) (c2 : PySem.W.codeIn K (cd2) "walk" = true) (k2 : PySem.W.keepIn K (.ref f2) = true)
    (a3 : PySem.W.nsIn K mainGlobals "lower" = some (some (.ref f3))) (l3 : K.lookup f3 = some ⟨oc3, od3, .func (PySem.W.fnOf "lower" "lower" (C8.fnArgs (top 10)) (C8.fnBody (top 10)) (C8.fnScope (top 10)) .none kV3 dc3 pm3 an3 (cd3) ct3), sl3⟩) (c3 : PySem.W.codeIn K (cd3) "lower" = true) (k3 : PySem.W.keepIn K (.ref f3) = true)
    (a4 : PySem.W.nsIn K mainGlobals "_hopes" = some (some (.ref f4))) (l4 : K.lookup f4 = some ⟨oc4, od4, .func (PySem.W.fnOf "_hopes" "_hopes" (C8.fnArgs (top 11)) (C8.fnBody (top 11)) (C8.fnScope (top 11)) .none kV4 dc4 pm4 an4 (.ref c) ct4), sl4⟩) (c4 : PySem.W.codeIn K (.ref c) "_hopes" = true) (k4 : PySem.W.keepIn K (.ref f4) = true)
    (a5 : PySem.W.nsIn K mainGlobals "_follows" = some (some (.ref f5))) (l5 : K.lookup f5 = some ⟨oc5, od5, .func (PySem.W.fnOf "_follows" "_follows" (C8.fnArgs (top 12)) (C8.fnBody (top 12)) (C8.fnScope (top 12)) .none kV5 dc5 pm5 an5 (cd5) ct5), sl5⟩) (c5 : PySem.W.codeIn K (cd5) "_follows" = true) (k5 : PySem.W.keepIn K (.ref f5) = true)
    (a6 : PySem.W.nsIn K mainGlobals "nested" = some (some (.ref f6))) (l6 : K.lookup f6 = some ⟨oc6, od6, .func (PySem.W.fnOf "nested" "nested" (C8.fnArgs (top 13)) (C8.fnBody (top 13)) (C8.fnScope (top 13)) .none kV6 dc6 pm6 an6 (cd6) ct6), sl6⟩) (c6 : PySem.W.codeIn K (cd6) "nested" = true) (k6 : PySem.W.keepIn K (.ref f6) = true)
    (a7 : PySem.W.nsIn K mainGlobals "_law_pool" = some (some (.ref f7))) (l7 : K.lookup f7 = some ⟨oc7, od7, .func (PySem.W.fnOf "_law_pool" "_law_pool" (C8.fnArgs (top 15)) (C8.fnBody (top 15)) (C8.fnScope (top 15)) .none kV7 dc7 pm7 an7 (cd7) ct7), sl7⟩) (c7 : PySem.W.codeIn K (cd7) "_law_pool" = true) (k7 : PySem.W.keepIn K (.ref f7) = true)
    (a8 : PySem.W.nsIn K mainGlobals "_law_draw" = some (some (.ref f8))) (l8 : K.lookup f8 = some ⟨oc8, od8, .func (PySem.W.fnOf "_law_draw" "_law_draw" (C8.fnArgs (top 16)) (C8.fnBody (top 16)) (C8.fnScope (top 16)) .none kV8 dc8 pm8 an8 (cd8) ct8), sl8⟩) (c8 : PySem.W.codeIn K (cd8) "_law_draw" = true) (k8 : PySem.W.keepIn K (.ref f8) = true)
    (a9 : PySem.W.nsIn K mainGlobals "_law_pick" = some (some (.ref f9))) (l9 : K.lookup f9 = some ⟨oc9, od9, .func (PySem.W.fnOf "_law_pick" "_law_pick" (C8.fnArgs (top 17)) (C8.fnBody (top 17)) (C8.fnScope (top 17)) .none kV9 dc9 pm9 an9 (cd9) ct9), sl9⟩) (c9 : PySem.W.codeIn K (cd9) "_law_pick" = true) (k9 : PySem.W.keepIn K (.ref f9) = true)
    (a10 : PySem.W.nsIn K mainGlobals "_law_shuffled" = some (some (.ref f10))) (l10 : K.lookup f10 = some ⟨oc10, od10, .func (PySem.W.fnOf "_law_shuffled" "_law_shuffled" (C8.fnArgs (top 18)) (C8.fnBody (top 18)) (C8.fnScope (top 18)) .none kV10 dc10 pm10 an10 (cd10) ct10), sl10⟩) (c10 : PySem.W.codeIn K (cd10) "_law_shuffled" = true) (k10 : PySem.W.keepIn K (.ref f10) = true)
    (a11 : PySem.W.nsIn K mainGlobals "_law_same" = some (some (.ref f11))) (l11 : K.lookup f11 = some ⟨oc11, od11, .func (PySem.W.fnOf "_law_same" "_law_same" (C8.fnArgs (top 19)) (C8.fnBody (top 19)) (C8.fnScope (top 19)) .none kV11 dc11 pm11 an11 (cd11) ct11), sl11⟩) (c11 : PySem.W.codeIn K (cd11) "_law_same" = true) (k11 : PySem.W.keepIn K (.ref f11) = true)
    (a12 : PySem.W.nsIn K mainGlobals "_law_fraction" = some (some (.ref f12))) (l12 : K.lookup f12 = some ⟨oc12, od12, .func (PySem.W.fnOf "_law_fraction" "_law_fraction" (C8.fnArgs (top 20)) (C8.fnBody (top 20)) (C8.fnScope (top 20)) .none kV12 dc12 pm12 an12 (cd12) ct12), sl12⟩) (c12 : PySem.W.codeIn K (cd12) "_law_fraction" = true) (k12 : PySem.W.keepIn K (.ref f12) = true)
    (a13 : PySem.W.nsIn K mainGlobals "_law_chance" = some (some (.ref f13))) (l13 : K.lookup f13 = some ⟨oc13, od13, .func (PySem.W.fnOf "_law_chance" "_law_chance" (C8.fnArgs (top 21)) (C8.fnBody (top 21)) (C8.fnScope (top 21)) .none kV13 dc13 pm13 an13 (cd13) ct13), sl13⟩) (c13 : PySem.W.codeIn K (cd13) "_law_chance" = true) (k13 : PySem.W.keepIn K (.ref f13) = true)
    (a14 : PySem.W.nsIn K mainGlobals "_law_tree" = some (some (.ref f14))) (l14 : K.lookup f14 = some ⟨oc14, od14, .func (PySem.W.fnOf "_law_tree" "_law_tree" (C8.fnArgs (top 22)) (C8.fnBody (top 22)) (C8.fnScope (top 22)) .none kV14 dc14 pm14 an14 (cd14) ct14), sl14⟩) (c14 : PySem.W.codeIn K (cd14) "_law_tree" = true) (k14 : PySem.W.keepIn K (.ref f14) = true)
    (a15 : PySem.W.nsIn K mainGlobals "_law_nodes" = some (some (.ref f15))) (l15 : K.lookup f15 = some ⟨oc15, od15, .func (PySem.W.fnOf "_law_nodes" "_law_nodes" (C8.fnArgs (top 23)) (C8.fnBody (top 23)) (C8.fnScope (top 23)) .none kV15 dc15 pm15 an15 (cd15) ct15), sl15⟩) (c15 : PySem.W.codeIn K (cd15) "_law_nodes" = true) (k15 : PySem.W.keepIn K (.ref f15) = true)
    (a16 : PySem.W.nsIn K mainGlobals "_law_plan" = some (some (.ref f16))) (l16 : K.lookup f16 = some ⟨oc16, od16, .func (PySem.W.fnOf "_law_plan" "_law_plan" (C8.fnArgs (top 24)) (C8.fnBody (top 24)) (C8.fnScope (top 24)) .none kV16 dc16 pm16 an16 (cd16) ct16), sl16⟩) (c16 : PySem.W.codeIn K (cd16) "_law_plan" = true) (k16 : PySem.W.keepIn K (.ref f16) = true)
    (a17 : PySem.W.nsIn K mainGlobals "_law_names" = some (some (.ref f17))) (l17 : K.lookup f17 = some ⟨oc17, od17, .func (PySem.W.fnOf "_law_names" "_law_names" (C8.fnArgs (top 25)) (C8.fnBody (top 25)) (C8.fnScope (top 25)) .none kV17 dc17 pm17 an17 (cd17) ct17), sl17⟩) (c17 : PySem.W.codeIn K (cd17) "_law_names" = true) (k17 : PySem.W.keepIn K (.ref f17) = true)
    (a18 : PySem.W.nsIn K mainGlobals "_law_bare" = some (some (.ref f18))) (l18 : K.lookup f18 = some ⟨oc18, od18, .func (PySem.W.fnOf "_law_bare" "_law_bare" (C8.fnArgs (top 26)) (C8.fnBody (top 26)) (C8.fnScope (top 26)) .none kV18 dc18 pm18 an18 (cd18) ct18), sl18⟩) (c18 : PySem.W.codeIn K (cd18) "_law_bare" = true) (k18 : PySem.W.keepIn K (.ref f18) = true)
    (a19 : PySem.W.nsIn K mainGlobals "_law_ends" = some (some (.ref f19))) (l19 : K.lookup f19 = some ⟨oc19, od19, .func (PySem.W.fnOf "_law_ends" "_law_ends" (C8.fnArgs (top 27)) (C8.fnBody (top 27)) (C8.fnScope (top 27)) .none kV19 dc19 pm19 an19 (cd19) ct19), sl19⟩) (c19 : PySem.W.codeIn K (cd19) "_law_ends" = true) (k19 : PySem.W.keepIn K (.ref f19) = true)
    (a20 : PySem.W.nsIn K mainGlobals "_law_with_tells" = some (some (.ref f20))) (l20 : K.lookup f20 = some ⟨oc20, od20, .func (PySem.W.fnOf "_law_with_tells" "_law_with_tells" (C8.fnArgs (top 28)) (C8.fnBody (top 28)) (C8.fnScope (top 28)) .none kV20 dc20 pm20 an20 (cd20) ct20), sl20⟩) (c20 : PySem.W.codeIn K (cd20) "_law_with_tells" = true) (k20 : PySem.W.keepIn K (.ref f20) = true)
    (a21 : PySem.W.nsIn K mainGlobals "_law_marks" = some (some (.ref f21))) (l21 : K.lookup f21 = some ⟨oc21, od21, .func (PySem.W.fnOf "_law_marks" "_law_marks" (C8.fnArgs (top 29)) (C8.fnBody (top 29)) (C8.fnScope (top 29)) .none kV21 dc21 pm21 an21 (cd21) ct21), sl21⟩) (c21 : PySem.W.codeIn K (cd21) "_law_marks" = true) (k21 : PySem.W.keepIn K (.ref f21) = true)
    (a22 : PySem.W.nsIn K mainGlobals "law" = some (some (.ref f22))) (l22 : K.lookup f22 = some ⟨oc22, od22, .func (PySem.W.fnOf "law" "law" (C8.fnArgs (top 30)) (C8.fnBody (top 30)) (C8.fnScope (top 30)) .none kV22 dc22 pm22 an22 (cd22) ct22), sl22⟩) (c22 : PySem.W.codeIn K (cd22) "law" = true) (k22 : PySem.W.keepIn K (.ref f22) = true)
    (z0 : PySem.W.nsIn K mainGlobals "len" = some none) (z1 : PySem.W.nsIn K mainGlobals "abs" = some none) (z2 : PySem.W.nsIn K mainGlobals "int" = some none) (z3 : PySem.W.nsIn K mainGlobals "list" = some none) (z4 : PySem.W.nsIn K mainGlobals "tuple" = some none) (z5 : PySem.W.nsIn K mainGlobals "sorted" = some none) (z6 : PySem.W.nsIn K mainGlobals "str" = some none) (z7 : PySem.W.nsIn K mainGlobals "max" = some none) (z8 : PySem.W.nsIn K mainGlobals "min" = some none) (z9 : PySem.W.nsIn K mainGlobals "isinstance" = some none) (z10 : PySem.W.nsIn K mainGlobals "range" = some none) (z11 : PySem.W.nsIn K mainGlobals "enumerate" = some none) (z12 : PySem.W.nsIn K mainGlobals "zip" = some none) (z13 : PySem.W.nsIn K mainGlobals "any" = some none) (z14 : PySem.W.nsIn K mainGlobals "all" = some none) (z15 : PySem.W.nsIn K mainGlobals "bool" = some none) :
    ∃ (fd : FuncData) (c P : Addr), PySem.W.tabIn K "_hopes" = some (c, P) ∧ K.lookup P = none ∧ (∀ (s : Shared) (u : Value), BindsTo s fd ⟨[u], []⟩ [("script", u)]) ∧
      ∀ base : Heap, K.In base → base.Ns mainGlobals mg → GxR.TabB base mg c P → FnOk l.prog w K mg base C8.CX0 40 fa fd ["script"] (spF K [P] 1 none (callN (tabOf ds kwk) 40 22)) := by
  have D0 : DefF K mg r_is_number false cd0 := defF_mk X G b_is_number ((fun h => nomatch h)) a0 l0 c0 k0
  have D1 : DefF K mg r_nexts_of false cd1 := defF_mk X G b_nexts_of ((fun h => nomatch h)) a1 l1 c1 k1
  have D2 : DefF K mg r_walk false cd2 := defF_mk X G b_walk ((fun h => nomatch h)) a2 l2 c2 k2
  have D3 : DefF K mg r_lower true cd3 := defF_mk X G b_lower (k_lower) a3 l3 c3 k3
  have D4 : DefF K mg r_hopes false (.ref c) := defF_mk X G b_hopes ((fun h => nomatch h)) a4 l4 c4 k4
  have D5 : DefF K mg r_follows false cd5 := defF_mk X G b_follows ((fun h => nomatch h)) a5 l5 c5 k5
  have D6 : DefF K mg r_nested true cd6 := defF_mk X G b_nested (k_nested) a6 l6 c6 k6
  have D7 : DefF K mg r_law_pool false cd7 := defF_mk X G b_law_pool ((fun h => nomatch h)) a7 l7 c7 k7
  have D8 : DefF K mg r_law_draw false cd8 := defF_mk X G b_law_draw ((fun h => nomatch h)) a8 l8 c8 k8
  have D9 : DefF K mg r_law_pick false cd9 := defF_mk X G b_law_pick ((fun h => nomatch h)) a9 l9 c9 k9
  have D10 : DefF K mg r_law_shuffled false cd10 := defF_mk X G b_law_shuffled ((fun h => nomatch h)) a10 l10 c10 k10
  have D11 : DefF K mg r_law_same false cd11 := defF_mk X G b_law_same ((fun h => nomatch h)) a11 l11 c11 k11
  have D12 : DefF K mg r_law_fraction false cd12 := defF_mk X G b_law_fraction ((fun h => nomatch h)) a12 l12 c12 k12
  have D13 : DefF K mg r_law_chance false cd13 := defF_mk X G b_law_chance ((fun h => nomatch h)) a13 l13 c13 k13
  have D14 : DefF K mg r_law_tree false cd14 := defF_mk X G b_law_tree ((fun h => nomatch h)) a14 l14 c14 k14
  have D15 : DefF K mg r_law_nodes false cd15 := defF_mk X G b_law_nodes ((fun h => nomatch h)) a15 l15 c15 k15
  have D16 : DefF K mg r_law_plan false cd16 := defF_mk X G b_law_plan ((fun h => nomatch h)) a16 l16 c16 k16
  have D17 : DefF K mg r_law_names false cd17 := defF_mk X G b_law_names ((fun h => nomatch h)) a17 l17 c17 k17
  have D18 : DefF K mg r_law_bare false cd18 := defF_mk X G b_law_bare ((fun h => nomatch h)) a18 l18 c18 k18
  have D19 : DefF K mg r_law_ends false cd19 := defF_mk X G b_law_ends ((fun h => nomatch h)) a19 l19 c19 k19
  have D20 : DefF K mg r_law_with_tells false cd20 := defF_mk X G b_law_with_tells ((fun h => nomatch h)) a20 l20 c20 k20
  have D21 : DefF K mg r_law_marks false cd21 := defF_mk X G b_law_marks ((fun h => nomatch h)) a21 l21 c21 k21
  have D22 : DefF K mg r_law false cd22 := defF_mk X G b_law ((fun h => nomatch h)) a22 l22 c22 k22
  have mgn : ∀ x ∈ bltN, mg x = none := by
    unfold bltN
    simp only [List.forall_mem_cons]
    exact ⟨PySem.W.mg_none_of X G z0, PySem.W.mg_none_of X G z1, PySem.W.mg_none_of X G z2, PySem.W.mg_none_of X G z3, PySem.W.mg_none_of X G z4, PySem.W.mg_none_of X G z5, PySem.W.mg_none_of X G z6, PySem.W.mg_none_of X G z7, PySem.W.mg_none_of X G z8, PySem.W.mg_none_of X G z9, PySem.W.mg_none_of X G z10, PySem.W.mg_none_of X G z11, PySem.W.mg_none_of X G z12, PySem.W.mg_none_of X G z13, PySem.W.mg_none_of X G z14, PySem.W.mg_none_of X G z15, fun _ h => nomatch h⟩
  have S : ∀ d ∈ ds, C8.scC d.N d.ps (C8.fnScope d.st) = true ∧ d.ps.length ≤ d.N.length := by
    have q : (ds.all fun d => C8.scC d.N d.ps (C8.fnScope d.st) && decide (d.ps.length ≤ d.N.length)) = true := by decide +kernel
    intro d hd
    have := List.all_eq_true.mp q d hd
    simpa only [Bool.and_eq_true, decide_eq_true_eq] using this
  have e : f22 = fa := by
    have q := (PySem.W.mg_of X G a22).symm.trans hfa
    cases q; rfl
  subst e
  have lev : ∀ base : Heap, GxR.TabB base mg c P → CalX l.prog w K mg base [P] (22 ∈ kwk) 40 r_law (callN (tabOf ds kwk) 40 22) := fun base TB => by
    refine levels (fun i d hd => ?_) (fun d hd => (S d hd).1) (fun d hd => (S d hd).2) mgn 40 22 r_law rfl
    match i, hd with
    | 0, rfl => exact D0.defK (fun h => absurd h (by decide)) (fun h => nomatch h)
    | 1, rfl => exact D1.defK (fun h => absurd h (by decide)) (fun h => nomatch h)
    | 2, rfl => exact D2.defK (fun h => absurd h (by decide)) (fun h => nomatch h)
    | 3, rfl => exact D3.defK (fun _ => rfl) (fun h => nomatch h)
    | 4, rfl => exact D4.defK (fun h => absurd h (by decide)) (fun _ => ⟨c, P, rfl, TB, List.mem_cons_self⟩)
    | 5, rfl => exact D5.defK (fun h => absurd h (by decide)) (fun h => nomatch h)
    | 6, rfl => exact D6.defK (fun _ => rfl) (fun h => nomatch h)
    | 7, rfl => exact D7.defK (fun h => absurd h (by decide)) (fun h => nomatch h)
    | 8, rfl => exact D8.defK (fun h => absurd h (by decide)) (fun h => nomatch h)
    | 9, rfl => exact D9.defK (fun h => absurd h (by decide)) (fun h => nomatch h)
    | 10, rfl => exact D10.defK (fun h => absurd h (by decide)) (fun h => nomatch h)
    | 11, rfl => exact D11.defK (fun h => absurd h (by decide)) (fun h => nomatch h)
    | 12, rfl => exact D12.defK (fun h => absurd h (by decide)) (fun h => nomatch h)
    | 13, rfl => exact D13.defK (fun h => absurd h (by decide)) (fun h => nomatch h)
    | 14, rfl => exact D14.defK (fun h => absurd h (by decide)) (fun h => nomatch h)
    | 15, rfl => exact D15.defK (fun h => absurd h (by decide)) (fun h => nomatch h)
    | 16, rfl => exact D16.defK (fun h => absurd h (by decide)) (fun h => nomatch h)
    | 17, rfl => exact D17.defK (fun h => absurd h (by decide)) (fun h => nomatch h)
    | 18, rfl => exact D18.defK (fun h => absurd h (by decide)) (fun h => nomatch h)
    | 19, rfl => exact D19.defK (fun h => absurd h (by decide)) (fun h => nomatch h)
    | 20, rfl => exact D20.defK (fun h => absurd h (by decide)) (fun h => nomatch h)
    | 21, rfl => exact D21.defK (fun h => absurd h (by decide)) (fun h => nomatch h)
    | 22, rfl => exact D22.defK (fun h => absurd h (by decide)) (fun h => nomatch h)
    | j + 23, hd => cases hd
  refine ⟨(PySem.W.fnOf "law" "law" (C8.fnArgs (top 30)) (C8.fnBody (top 30)) (C8.fnScope (top 30)) .none kV22 dc22 pm22 an22 cd22 ct22), c, P, ht, hp, fun s u => .of_eq (b_law _ _ _ _ _ _ [u] rfl), fun base _ _ TB => ?_⟩
  obtain ⟨f2, fd2, F2, m2, _, _, _, oc2, od2, sl2, lk2⟩ := lev base TB
  have q := m2.symm.trans hfa
  cases q
  have q2 := lk2.symm.trans l22
  cases q2
  exact F2
end K84
end
section
set_option maxRecDepth 100000
set_option linter.all false
/-! SfSim: equations by which the evaluator runs on known shapes. -/
namespace Sf
section
variable {α β : Type}
@[simp] theorem bnd_okE (a : α) (r : Env) (f : α → Env → Out β) : (Out.ok a r).bnd f = f a r := rfl
@[simp] theorem bnd_badE (f : α → Env → Out β) : (Out.bad : Out α).bnd f = .bad := rfl
@[simp] theorem fin_okE (a : α) (r : Env) (f : α → Env → Res) : (Out.ok a r).fin f = f a r := rfl
@[simp] theorem fin_badE (f : α → Env → Res) : (Out.bad : Out α).fin f = .bad := rfl
@[simp] theorem lift_someE (a : α) (r : Env) : Out.lift (some a) r = .ok a r := rfl
@[simp] theorem lift_noneE (r : Env) : Out.lift (none : Option α) r = .bad := rfl
end
@[simp] theorem frz_non : D.frz .non = .non := rfl
@[simp] theorem frz_bl (b : Bool) : D.frz (.bl b) = .bl b := rfl
@[simp] theorem frz_int (b : Int) : D.frz (.int b) = .int b := rfl
@[simp] theorem frz_str (b : List Nat) : D.frz (.str b) = .str b := rfl
@[simp] theorem frz_tup (b : List D) : D.frz (.tup b) = .tup b := rfl
@[simp] theorem frz_lst (o : Bool) (b : List D) : D.frz (.lst o b) = .lst false b := rfl
@[simp] theorem frz_dic (o : Bool) (b c : List D) : D.frz (.dic o b c) = .dic false b c := rfl
@[simp] theorem frz_scr (b : List D) : D.frz (.scr b) = .scr b := rfl
@[simp] theorem isZ_non : D.isZ .non = true := rfl
@[simp] theorem isZ_bl (b : Bool) : D.isZ (.bl b) = true := rfl
@[simp] theorem isZ_int (b : Int) : D.isZ (.int b) = true := rfl
@[simp] theorem isZ_str (b : List Nat) : D.isZ (.str b) = true := rfl
@[simp] theorem isZ_tup (b : List D) : D.isZ (.tup b) = true := rfl
@[simp] theorem isZ_lstT (b : List D) : D.isZ (.lst true b) = false := rfl
@[simp] theorem isZ_lstF (b : List D) : D.isZ (.lst false b) = true := rfl
@[simp] theorem isZ_scr (b : List D) : D.isZ (.scr b) = true := rfl
@[simp] theorem tru_non : tru .non = some false := rfl
@[simp] theorem tru_bl (b : Bool) : tru (.bl b) = some b := rfl
@[simp] theorem tru_int (b : Int) : tru (.int b) = some (b != 0) := rfl
@[simp] theorem tru_tup (b : List D) : tru (.tup b) = some !b.isEmpty := rfl
@[simp] theorem tru_lst (o : Bool) (b : List D) : tru (.lst o b) = some !b.isEmpty := rfl
@[simp] theorem asInt_int (i : Int) : asInt (.int i) = some i := rfl
@[simp] theorem c_eqI (i j : Int) : cmpop .eq (.int i) (.int j) = some (i == j) := rfl
@[simp] theorem c_neI (i j : Int) : cmpop .ne (.int i) (.int j) = some !(i == j) := rfl
@[simp] theorem c_eqS (i j : List Nat) : cmpop .eq (.str i) (.str j) = some (i == j) := rfl
@[simp] theorem c_eqT (x y : List D) : cmpop .eq (.tup x) (.tup y) = if D.eqOk (.tup x) (.tup y) then some (D.eqvs x y) else none := by simp only [cmpop, D.eqv]
@[simp] theorem c_ltI (i j : Int) : cmpop .lt (.int i) (.int j) = some (decide (i < j)) := rfl
@[simp] theorem c_leI (i j : Int) : cmpop .le (.int i) (.int j) = some (decide (i ≤ j)) := rfl
@[simp] theorem c_gtI (i j : Int) : cmpop .gt (.int i) (.int j) = some (decide (j < i)) := rfl
@[simp] theorem c_geI (i j : Int) : cmpop .ge (.int i) (.int j) = some (decide (j ≤ i)) := rfl
@[simp] theorem b_addI (i j : Int) : binop .add (.int i) (.int j) = some (.int (i + j)) := rfl
@[simp] theorem b_subI (i j : Int) : binop .sub (.int i) (.int j) = some (.int (i - j)) := rfl
@[simp] theorem b_mulI (i j : Int) : binop .mul (.int i) (.int j) = if mulOk i j then some (.int (i * j)) else none := rfl
@[simp] theorem b_fdivI (i j : Int) : binop .fdiv (.int i) (.int j) = if divOk j then some (.int (i / j)) else none := rfl
@[simp] theorem b_modI (i j : Int) : binop .mod (.int i) (.int j) = if 0 < j then some (.int (i % j)) else none := rfl
@[simp] theorem b_addL (x y : List D) : binop .add (.lst false x) (.lst false y) = if x.length + y.length ≤ SZ then some (.lst true (x ++ y)) else none := rfl
@[simp] theorem b_addT (x y : List D) : binop .add (.tup x) (.tup y) = if x.length + y.length ≤ SZ then some (.tup (x ++ y)) else none := rfl
@[simp] theorem b_addS (x y : List Nat) : binop .add (.str x) (.str y) = if x.length + y.length ≤ SZ then some (.str (x ++ y)) else none := rfl
@[simp] theorem b_mulL (x : List D) (k : Int) : binop .mul (.lst false x) (.int k) = if k < 2 ^ 40 ∧ -(2 ^ 40) < k ∧ x.length * k.toNat ≤ SZ then some (.lst true (List.replicate k.toNat x).flatten) else none := rfl
@[simp] theorem sl_L (o : Bool) (x : List D) (l h : Option Int) : slq (.lst o x) l h = some (.lst true (cut x l h)) := rfl
@[simp] theorem sl_T (x : List D) (l h : Option Int) : slq (.tup x) l h = some (.tup (cut x l h)) := rfl
@[simp] theorem bi_lenT (x : List D) : bltf .len (.tup x) = some (.int x.length) := rfl
@[simp] theorem bi_lenL (o : Bool) (x : List D) : bltf .len (.lst o x) = some (.int x.length) := rfl
@[simp] theorem bi_lenS (x : List D) : bltf .len (.scr x) = some (.int x.length) := rfl
@[simp] theorem bi_absI (i : Int) : bltf .abs (.int i) = some (.int (if i < 0 then -i else i)) := rfl
@[simp] theorem bi_intI (i : Int) : bltf .int (.int i) = some (.int i) := rfl
@[simp] theorem bi_listT (x : List D) : bltf .list (.tup x) = some (.lst true x) := rfl
@[simp] theorem bi_listL (o : Bool) (x : List D) : bltf .list (.lst o x) = some (.lst true x) := rfl
@[simp] theorem bi_listS (x : List D) : bltf .list (.scr x) = some (.lst true x) := rfl
@[simp] theorem bi_tupT (x : List D) : bltf .tuple (.tup x) = some (.tup x) := rfl
@[simp] theorem bi_tupL (o : Bool) (x : List D) : bltf .tuple (.lst o x) = some (.tup x) := rfl
@[simp] theorem idx_T (x : List D) (i : Int) : idx (.tup x) (.int i) = atq x i := rfl
@[simp] theorem idx_L (o : Bool) (x : List D) (i : Int) : idx (.lst o x) (.int i) = atq x i := rfl
theorem atq_nat {α : Type} (x : List α) (n : Nat) : atq x (n : Int) = x[n]? := by
  unfold atq ixq
  rw [if_pos (by omega)]
  by_cases h : n < x.length
  · rw [if_pos (by omega)]; simp
  · rw [if_neg (by omega), List.getElem?_eq_none (by omega)]; rfl
theorem ixq_nat {n k : Nat} (h : k < n) : ixq n (k : Int) = some k := by
  unfold ixq
  rw [if_pos (by omega), if_pos (by omega)]
  simp
@[simp] theorem atq_0 {α : Type} (a : α) (x : List α) : atq (a :: x) 0 = some a := atq_nat (a :: x) 0
@[simp] theorem atq_1 {α : Type} (a b : α) (x : List α) : atq (a :: b :: x) 1 = some b := atq_nat (a :: b :: x) 1
@[simp] theorem atq_2 {α : Type} (a b c : α) (x : List α) : atq (a :: b :: c :: x) 2 = some c := atq_nat (a :: b :: c :: x) 2
@[simp] theorem atq_3 {α : Type} (a b c d : α) (x : List α) : atq (a :: b :: c :: d :: x) 3 = some d := atq_nat (a :: b :: c :: d :: x) 3
@[simp] theorem ixq_0 {n : Nat} : ixq (n + 1) 0 = some 0 := ixq_nat (n := n + 1) (k := 0) (by omega)
@[simp] theorem ixq_1 {n : Nat} : ixq (n + 1 + 1) 1 = some 1 := ixq_nat (n := n + 2) (k := 1) (by omega)
@[simp] theorem ixq_2 {n : Nat} : ixq (n + 1 + 1 + 1) 2 = some 2 := ixq_nat (n := n + 3) (k := 2) (by omega)
/-! ### loops -/
/-- a comprehension by an invariant: what is still to be walked, the variables, what has been gathered -/
theorem compL_inv {own : List Nat} {f : D → Env → Out (Option D)} (P : List D → Env → List D → Prop) (step : ∀ x xs r acc, P (x :: xs) r acc → ∃ o r', f x (wipeE r own) = .ok o r' ∧ P xs r' (acc ++ o.toList)) :
    ∀ (xs : List D) (r : Env) (acc : List D), P xs r acc → ∃ ys r', compL own f xs r = .ok ys r' ∧ P [] r' (acc ++ ys)
  | [], r, acc, h => ⟨[], r, rfl, by rw [List.append_nil]; exact h⟩
  | x :: xs, r, acc, h => by
    obtain ⟨o, r1, e1, h1⟩ := step x xs r acc h
    obtain ⟨ys, r2, e2, h2⟩ := compL_inv P step xs r1 _ h1
    refine ⟨o.toList ++ ys, r2, ?_, by rw [← List.append_assoc]; exact h2⟩
    show (f x (wipeE r own)).bnd _ = _
    rw [e1]
    show (compL own f xs r1).bnd _ = _
    rw [e2]
    rfl
/-- a for by an invariant -/
theorem forL_inv {f : D → Env → Res} (P : List D → Env → Prop) (Q : Res → Prop) (step : ∀ x xs r, P (x :: xs) r → (∃ r', (f x r = .nx r' ∨ f x r = .ct r') ∧ P xs r') ∨ (∃ r', f x r = .bk r' ∧ Q (.nx r')) ∨ ∃ d r', f x r = .rt d r' ∧ Q (.rt d r')) (fin : ∀ r, P [] r → Q (.nx r)) :
    ∀ (xs : List D) (r : Env), P xs r → Q (forL f xs r)
  | [], r, h => fin r h
  | x :: xs, r, h => by
    unfold forL
    rcases step x xs r h with ⟨r', e | e, h1⟩ | ⟨r', e, h1⟩ | ⟨d, r', e, h1⟩
    · rw [e]; exact forL_inv P Q step fin xs r' h1
    · rw [e]; exact forL_inv P Q step fin xs r' h1
    · rw [e]; exact h1
    · rw [e]; exact h1
/-- a while by an invariant with a measure -/
theorem whL_inv {c : Env → Out Bool} {f : Env → Res} (P : Nat → Env → Prop) (Q : Res → Prop) (step : ∀ n r, P n r → ∃ b r1, c r = .ok b r1 ∧ (b = false → Q (.nx r1)) ∧ (b = true → (∃ r2 n', (f r1 = .nx r2 ∨ f r1 = .ct r2) ∧ n' < n ∧ P n' r2) ∨ (∃ r2, f r1 = .bk r2 ∧ Q (.nx r2)) ∨ ∃ d r2, f r1 = .rt d r2 ∧ Q (.rt d r2))) :
    ∀ (m n : Nat) (r : Env), n < m → P n r → Q (whL c f m r)
  | 0, n, r, hm, _ => by omega
  | m + 1, n, r, hm, h => by
    obtain ⟨b, r1, e, h0, h1⟩ := step n r h
    unfold whL
    rw [e]
    cases b with
    | false => exact h0 rfl
    | true =>
      rcases h1 rfl with ⟨r2, n', e2 | e2, hn, h2⟩ | ⟨r2, e2, h2⟩ | ⟨d, r2, e2, h2⟩
      · simp only [fin_okE, if_true, e2]; exact whL_inv P Q step m n' r2 (by omega) h2
      · simp only [fin_okE, if_true, e2]; exact whL_inv P Q step m n' r2 (by omega) h2
      · simp only [fin_okE, if_true, e2]; exact h2
      · simp only [fin_okE, if_true, e2]; exact h2
/-- a comprehension's turn -/
def cF (sg : Sig) (C : Calls) (elt : E) (tg : T) (cs : List E) : D → Env → Out (Option D) := fun x r => match bindT r tg x with
  | some r => (evts (ev3s sg C cs) r).bnd fun b r => if b then ((ev3 sg C elt).z r).bnd fun d r => .ok (some d) r else .ok none r
  | none => .bad
theorem comp_v {sg : Sig} {C : Calls} {elt : E} {tg : T} {it : E} {cs : List E} {own : List Nat} {r r0 r' : Env} {xs ys : List D} (h1 : (ev3 sg C it).i r = .ok xs r0) (h2 : ownZ r0 own = true) (h3 : compL own (cF sg C elt tg cs) xs r0 = .ok ys r') :
    (ev3 sg C (.comp elt tg it cs own)).v r = .ok (D.lst true ys) (backE r0 r' own) := by
  show ((ev3 sg C it).i r).bnd (fun xs r0 => if ownZ r0 own then (compL own (cF sg C elt tg cs) xs r0).bnd (fun ys r => .ok (D.lst true ys) (backE r0 r own)) else .bad) = _
  rw [h1]
  show (if ownZ r0 own then (compL own (cF sg C elt tg cs) xs r0).bnd (fun ys r => .ok (D.lst true ys) (backE r0 r own)) else .bad) = _
  rw [if_pos h2, h3]
  rfl
theorem rngq_succ (lo : Int) (n : Nat) : rngq lo 1 (n + 1) = .int lo :: rngq (lo + 1) 1 n := by
  unfold rngq
  rw [List.range_succ_eq_map, List.map_cons, List.map_map]
  congr 1
  · simp
  · refine List.map_congr_left fun k _ => ?_
    show D.int (lo + ((k + 1 : Nat) : Int) * 1) = D.int (lo + 1 + (k : Int) * 1)
    congr 1
    omega
theorem rngq_length (lo c : Int) (n : Nat) : (rngq lo c n).length = n := by simp [rngq]
theorem callN_at {fs : List Fn} {k i : Nat} {fn : Fn} {ds : List D} (h : fs[i]? = some fn) : callN fs (k + 1) i ds = runF (sigOf fs) (callN fs k) fn ds := by
  show (match fs[i]? with
    | some fn => runF (sigOf fs) (callN fs k) fn ds
    | none => .bad) = _
  rw [h]
end Sf
end
section
set_option maxRecDepth 100000
set_option linter.all false
/-! SfWp: the evaluator's runs read as what is asked of their end. The last argument keeps simp out of what comes later. -/
namespace Sf
section
variable {α β : Type}
abbrev XC := Nat → List D → Env → Prop
structure T1 {A : Type} (Q : A) : Type where
structure T2 {A B : Type} (Q : A) (X : B) : Type where
structure T5 {A B C E F : Type} (N : A) (R : B) (b : C) (k : E) (X : F) : Type where
@[irreducible] def WO (o : Option α) (Q : α → Prop) (_ : T1 Q) : Prop := match o with
  | some a => Q a
  | none => False
@[irreducible] def W (o : Out α) (Q : α → Env → Prop) (X : XC) (_ : T2 Q X) : Prop := match o with
  | .ok a r => Q a r
  | .exn c xs r => X c xs r
  | .bad => False
@[irreducible] def WS (o : Res) (N : Env → Prop) (R : D → Env → Prop) (B K : Env → Prop) (X : XC) (_ : T5 N R B K X) : Prop := match o with
  | .nx r => N r
  | .rt d r => R d r
  | .bk r => B r
  | .ct r => K r
  | .exn c xs r => X c xs r
  | .bad => False
variable {Q : α → Env → Prop} {X : XC} {t : T2 Q X} {P : α → Prop} {u : T1 P}
theorem WO_some (a : α) : WO (some a) P u = P a := by with_unfolding_all rfl
theorem WO_none : WO none P u = False := by with_unfolding_all rfl
theorem WO_map (o : Option β) (f : β → α) : WO (o.map f) P u = WO o (fun a => P (f a)) ⟨⟩ := by cases o <;> with_unfolding_all rfl
theorem WO_bind (o : Option β) (f : β → Option α) : WO (o.bind f) P u = WO o (fun a => WO (f a) P ⟨⟩) ⟨⟩ := by cases o <;> with_unfolding_all rfl
theorem WO_iteN (c : Prop) [Decidable c] (a : α) : WO (if c then some a else none) P u = (c ∧ P a) := by
  by_cases h : c
  · rw [if_pos h]; simp [h, WO]
  · rw [if_neg h]; simp [h, WO]
theorem W_ok (a : α) (r : Env) : W (.ok a r) Q X t = Q a r := by with_unfolding_all rfl
theorem W_bad : W .bad Q X t = False := by with_unfolding_all rfl
theorem W_lift (o : Option α) (r : Env) : W (.lift o r) Q X t = WO o (fun a => Q a r) ⟨⟩ := by cases o <;> with_unfolding_all rfl
theorem W_bnd (o : Out β) (f : β → Env → Out α) : W (o.bnd f) Q X t = W o (fun a r => W (f a r) Q X ⟨⟩) X ⟨⟩ := by cases o <;> with_unfolding_all rfl
theorem W_ite (c : Prop) [Decidable c] (a b : Out α) : W (if c then a else b) Q X t = if c then W a Q X ⟨⟩ else W b Q X ⟨⟩ := by
  by_cases h : c
  · rw [if_pos h, if_pos h]
  · rw [if_neg h, if_neg h]
theorem W_iteBad (c : Prop) [Decidable c] (a : Out α) : W (if c then a else .bad) Q X t = (c ∧ W a Q X ⟨⟩) := by
  by_cases h : c
  · rw [if_pos h]; simp [h]
  · rw [if_neg h]; simp [h, W]
end
section
variable {N : Env → Prop} {R : D → Env → Prop} {B K : Env → Prop} {X : XC} {t : T5 N R B K X}
theorem WS_nx (r : Env) : WS (.nx r) N R B K X t = N r := by with_unfolding_all rfl
theorem WS_rt (d : D) (r : Env) : WS (.rt d r) N R B K X t = R d r := by with_unfolding_all rfl
theorem WS_bk (r : Env) : WS (.bk r) N R B K X t = B r := by with_unfolding_all rfl
theorem WS_ct (r : Env) : WS (.ct r) N R B K X t = K r := by with_unfolding_all rfl
theorem WS_bad : WS .bad N R B K X t = False := by with_unfolding_all rfl
theorem WS_fin {α : Type} (o : Out α) (f : α → Env → Res) : WS (o.fin f) N R B K X t = W o (fun a r => WS (f a r) N R B K X ⟨⟩) X ⟨⟩ := by cases o <;> with_unfolding_all rfl
theorem WS_ite (c : Prop) [Decidable c] (a b : Res) : WS (if c then a else b) N R B K X t = if c then WS a N R B K X ⟨⟩ else WS b N R B K X ⟨⟩ := by
  by_cases h : c
  · rw [if_pos h, if_pos h]
  · rw [if_neg h, if_neg h]
theorem WS_iteBad (c : Prop) [Decidable c] (a : Res) : WS (if c then a else .bad) N R B K X t = (c ∧ WS a N R B K X ⟨⟩) := by
  by_cases h : c
  · rw [if_pos h]; simp [h]
  · rw [if_neg h]; simp [h, WS]
end
/-! ### what expressions do -/
section
variable {sg : Sig} {C : Calls} {Q : D → Env → Prop} {X : XC} {t : T2 Q X}
theorem w_z (m : Md) (r : Env) : W (m.z r) Q X t = W (m.v r) (fun d r => Q d.frz r) X ⟨⟩ := by with_unfolding_all exact W_bnd _ _
theorem w_pS (m : Md) (i : Nat) (r : Env) : W (m.p (some i) r) Q X t = WO (peek r i) (fun d => Q d r) ⟨⟩ := by with_unfolding_all exact W_lift _ _
theorem w_pN (m : Md) (r : Env) : W (m.p none r) Q X t = W (m.v r) (fun d r => Q d.frz r) X ⟨⟩ := by with_unfolding_all exact W_bnd _ _
/-- the variables behind a reading of one -/
def mv (d : D) (r : Env) (i : Nat) : Env := if d.isZ then r else putE r i d.frz
theorem frz_isZ : ∀ d : D, d.isZ = true → d.frz = d
  | .non, _ => rfl
  | .bl _, _ => rfl
  | .int _, _ => rfl
  | .str _, _ => rfl
  | .tup _, _ => rfl
  | .lst false _, _ => rfl
  | .dic false _ _, _ => rfl
  | .scr _, _ => rfl
theorem w_varV (i : Nat) (r : Env) : W (varV i r) Q X t = WO (peek r i) (fun d => Q d.frz (mv d r i)) ⟨⟩ := by
  unfold varV mv
  cases peek r i with
  | none => with_unfolding_all rfl
  | some d =>
    with_unfolding_all show W (if d.isZ = true then _ else _) Q X t = Q d.frz (if d.isZ = true then _ else _)
    by_cases h : d.isZ = true
    · rw [if_pos h, if_pos h, frz_isZ d h]; with_unfolding_all rfl
    · rw [if_neg h, if_neg h]; with_unfolding_all rfl
theorem w_var (i : Nat) (r : Env) : W ((ev3 sg C (.var i)).v r) Q X t = WO (peek r i) (fun d => Q d.frz (mv d r i)) ⟨⟩ := w_varV i r
theorem mv_z (d : D) (r : Env) (i : Nat) (h : d.isZ = true) : mv d r i = r := by unfold mv; rw [if_pos h]
theorem mv_non (r : Env) (i : Nat) : mv .non r i = r := by with_unfolding_all rfl
theorem mv_bl (b : Bool) (r : Env) (i : Nat) : mv (.bl b) r i = r := by with_unfolding_all rfl
theorem mv_int (b : Int) (r : Env) (i : Nat) : mv (.int b) r i = r := by with_unfolding_all rfl
theorem mv_str (b : List Nat) (r : Env) (i : Nat) : mv (.str b) r i = r := by with_unfolding_all rfl
theorem mv_tup (b : List D) (r : Env) (i : Nat) : mv (.tup b) r i = r := by with_unfolding_all rfl
theorem mv_F (b : List D) (r : Env) (i : Nat) : mv (.lst false b) r i = r := by with_unfolding_all rfl
theorem mv_scr (b : List D) (r : Env) (i : Nat) : mv (.scr b) r i = r := by with_unfolding_all rfl
theorem mv_L (xs : List D) (r : Env) (i : Nat) : mv (.lst true xs) r i = putE r i (.lst false xs) := by with_unfolding_all rfl
theorem mv_D (ks vs : List D) (r : Env) (i : Nat) : mv (.dic true ks vs) r i = putE r i (.dic false ks vs) := by with_unfolding_all rfl
theorem w_cint (i : Int) (r : Env) : W ((ev3 sg C (.cint i)).v r) Q X t = Q (.int i) r := by with_unfolding_all rfl
theorem w_cbl (i : Bool) (r : Env) : W ((ev3 sg C (.cbl i)).v r) Q X t = Q (.bl i) r := by with_unfolding_all rfl
theorem w_cnon (r : Env) : W ((ev3 sg C .cnon).v r) Q X t = Q .non r := by with_unfolding_all rfl
theorem w_cstr (x : List Nat) (r : Env) : W ((ev3 sg C (.cstr x)).v r) Q X t = Q (.str x) r := by with_unfolding_all rfl
theorem w_bin (op : BOp) (a b : E) (r : Env) : W ((ev3 sg C (.bin op a b)).v r) Q X t = W ((ev3 sg C a).z r) (fun x r => W (((ev3 sg C b).z r).bnd fun y r => .lift (binop op x y) r) Q X ⟨⟩) X ⟨⟩ := by with_unfolding_all exact W_bnd _ _
theorem w_neg (a : E) (r : Env) : W ((ev3 sg C (.neg a)).v r) Q X t = W ((ev3 sg C a).v r) (fun x r => W (.lift ((asInt x).map fun i => .int (-i)) r) Q X ⟨⟩) X ⟨⟩ := by with_unfolding_all exact W_bnd _ _
theorem w_cmp (op : COp) (a b : E) (r : Env) : W ((ev3 sg C (.cmp op a b)).v r) Q X t = W ((ev3 sg C a).p (if b.simple then a.slot? else none) r) (fun x r => W (((ev3 sg C b).p b.slot? r).bnd fun y r => .lift ((cmpop op x y).map .bl) r) Q X ⟨⟩) X ⟨⟩ := by with_unfolding_all exact W_bnd _ _
theorem w_chn (op op2 : COp) (a b c : E) (r : Env) : W ((ev3 sg C (.chn op op2 a b c)).v r) Q X t = W ((ev3 sg C a).z r) (fun x r => W (((ev3 sg C b).z r).bnd fun y r => match cmpop op x y with | some true => ((ev3 sg C c).z r).bnd fun z r => .lift ((cmpop op2 y z).map .bl) r | some false => .ok (.bl false) r | none => .bad) Q X ⟨⟩) X ⟨⟩ := by with_unfolding_all exact W_bnd _ _
theorem w_not (a : E) (r : Env) : W ((ev3 sg C (.not a)).v r) Q X t = W ((ev3 sg C a).p a.slot? r) (fun x r => W (.lift ((tru x).map fun b => .bl !b) r) Q X ⟨⟩) X ⟨⟩ := by with_unfolding_all exact W_bnd _ _
theorem w_and (a b : E) (r : Env) : W ((ev3 sg C (.and a b)).v r) Q X t = W ((ev3 sg C a).v r) (fun x r => W (match x with | .bl true => (ev3 sg C b).v r | .bl false => .ok (.bl false) r | _ => .bad) Q X ⟨⟩) X ⟨⟩ := by with_unfolding_all exact W_bnd _ _
theorem w_or (a b : E) (r : Env) : W ((ev3 sg C (.or a b)).v r) Q X t = W ((ev3 sg C a).v r) (fun x r => W (match x with | .bl true => .ok (.bl true) r | .bl false => (ev3 sg C b).v r | _ => .bad) Q X ⟨⟩) X ⟨⟩ := by with_unfolding_all exact W_bnd _ _
theorem w_one (a : E) (r : Env) : W ((ev3 sg C (.one a)).v r) Q X t = W ((ev3 sg C a).v r) Q X ⟨⟩ := by with_unfolding_all rfl
theorem w_ifx (c a b : E) (r : Env) : W ((ev3 sg C (.ifx c a b)).v r) Q X t = W ((ev3 sg C c).t r) (fun tt r => W (if tt = true then (ev3 sg C a).v r else (ev3 sg C b).v r) Q X ⟨⟩) X ⟨⟩ := by with_unfolding_all exact W_bnd _ _
theorem w_tup (es : List E) (r : Env) : W ((ev3 sg C (.tup es)).v r) Q X t = W (evz (ev3s sg C es) r) (fun ds r => W (.lift (if ds.length ≤ SZ then some (.tup ds) else none) r) Q X ⟨⟩) X ⟨⟩ := by with_unfolding_all exact W_bnd _ _
theorem w_lst (es : List E) (r : Env) : W ((ev3 sg C (.lst es)).v r) Q X t = W (evz (ev3s sg C es) r) (fun ds r => W (.lift (if ds.length ≤ SZ then some (.lst true ds) else none) r) Q X ⟨⟩) X ⟨⟩ := by with_unfolding_all exact W_bnd _ _
theorem w_dic0 (r : Env) : W ((ev3 sg C .dic0).v r) Q X t = Q (.dic true [] []) r := by with_unfolding_all rfl
theorem w_subV (s : Nat) (i : E) (r : Env) : W ((ev3 sg C (.sub (.var s) i)).v r) Q X t = W (has s r) (fun _ r => W (((ev3 sg C i).z r).bnd fun y r => .lift ((peek r s).bind fun x => idx x y) r) Q X ⟨⟩) X ⟨⟩ := by with_unfolding_all exact W_bnd _ _
theorem w_subN (a i : E) (r : Env) (h : a.slot? = none) : W ((ev3 sg C (.sub a i)).v r) Q X t = W ((ev3 sg C a).z r) (fun x r => W (((ev3 sg C i).z r).bnd fun y r => .lift (idx x y) r) Q X ⟨⟩) X ⟨⟩ := by
  show W (match a.slot? with | some s => _ | none => _) Q X t = _
  rw [h]; with_unfolding_all exact W_bnd _ _
theorem w_slcV (s : Nat) (lo hi : Option E) (r : Env) : W ((ev3 sg C (.slc (.var s) lo hi)).v r) Q X t = W (has s r) (fun _ r => W ((evo (ev3o sg C lo) r).bnd fun l r => (evo (ev3o sg C hi) r).bnd fun h r => .lift ((peek r s).bind fun x => slq x l h) r) Q X ⟨⟩) X ⟨⟩ := by with_unfolding_all exact W_bnd _ _
theorem w_slcN (a : E) (lo hi : Option E) (r : Env) (h : a.slot? = none) : W ((ev3 sg C (.slc a lo hi)).v r) Q X t = W ((ev3 sg C a).z r) (fun x r => W ((evo (ev3o sg C lo) r).bnd fun l r => (evo (ev3o sg C hi) r).bnd fun h r => .lift (slq x l h) r) Q X ⟨⟩) X ⟨⟩ := by
  show W (match a.slot? with | some s => _ | none => _) Q X t = _
  rw [h]; with_unfolding_all exact W_bnd _ _
theorem w_call (f : Nat) (es : List E) (pm : List Nat) (r : Env) : W ((ev3 sg C (.call f es pm)).v r) Q X t = W (evc (sg f) 0 es (ev3s sg C es) r) (fun ds r => WO ((callArgs (sg f) es r ds).bind (perm (sg f) pm)) (fun ds => W (C f ds) (fun d fin => Q d (giveBack (sg f) es fin r)) X ⟨⟩) ⟨⟩) X ⟨⟩ := by
  show W ((evc (sg f) 0 es (ev3s sg C es) r).bnd fun ds r => match (callArgs (sg f) es r ds).bind (perm (sg f) pm) with
      | some ds => (C f ds).bnd fun d fin => .ok d (giveBack (sg f) es fin r)
      | none => .bad) Q X t = _
  rw [W_bnd]
  congr 1
  · funext ds r
    cases (callArgs (sg f) es r ds).bind (perm (sg f) pm) with
    | none => with_unfolding_all rfl
    | some ds => with_unfolding_all exact W_bnd _ _
  · congr 1
    funext ds r
    cases (callArgs (sg f) es r ds).bind (perm (sg f) pm) with
    | none => with_unfolding_all rfl
    | some ds => with_unfolding_all exact W_bnd _ _
theorem w_bi (b : Bi) (a : E) (r : Env) : W ((ev3 sg C (.bi b a)).v r) Q X t = W ((ev3 sg C a).p a.slot? r) (fun x r => W (.lift (bltf b x) r) Q X ⟨⟩) X ⟨⟩ := by with_unfolding_all exact W_bnd _ _
theorem w_bi2 (b : Bi2) (a c : E) (r : Env) : W ((ev3 sg C (.bi2 b a c)).v r) Q X t = W ((ev3 sg C a).z r) (fun x r => W (((ev3 sg C c).z r).bnd fun y r => .lift (bltg b x y) r) Q X ⟨⟩) X ⟨⟩ := by with_unfolding_all exact W_bnd _ _
theorem w_isi (a : E) (ty : Ty) (r : Env) : W ((ev3 sg C (.isi a ty)).v r) Q X t = W ((ev3 sg C a).z r) (fun x r => W (.lift ((isiq x ty).map .bl) r) Q X ⟨⟩) X ⟨⟩ := by with_unfolding_all exact W_bnd _ _
theorem w_comp (elt : E) (tg : T) (it : E) (cs : List E) (own : List Nat) (r : Env) : W ((ev3 sg C (.comp elt tg it cs own)).v r) Q X t = W ((ev3 sg C it).i r) (fun xs r0 => W (if ownZ r0 own = true then (compL own (cF sg C elt tg cs) xs r0).bnd fun ys r => .ok (.lst true ys) (backE r0 r own) else .bad) Q X ⟨⟩) X ⟨⟩ := by with_unfolding_all exact W_bnd _ _
theorem w_anyA (al : Bool) (i : Nat) (it : E) (r : Env) : W ((ev3 sg C (.anyA al i it)).v r) Q X t = W ((ev3 sg C it).z r) (fun x r => W (.lift ((pickB (peek r i) x).map fun bs => .bl (if al then bs.all id else bs.any id)) r) Q X ⟨⟩) X ⟨⟩ := by with_unfolding_all exact W_bnd _ _
def popD (o : Option D) : Option (D × List D) := match o with
  | some (.lst true xs) => (xs[xs.length - 1]?).map fun d => (d, xs.dropLast)
  | _ => none
theorem w_pop0 (i : Nat) (r : Env) : W ((ev3 sg C (.pop0 i)).v r) Q X t = WO (popD (peek r i)) (fun p => Q p.1 (putE r i (.lst true p.2))) ⟨⟩ := by
  show W (match peek r i with
    | some (.lst true xs) => match xs[xs.length - 1]? with
      | some d => .ok d (putE r i (.lst true xs.dropLast))
      | none => .bad
    | _ => .bad) Q X t = _
  unfold popD
  cases peek r i with
  | none => with_unfolding_all rfl
  | some d =>
    cases d with
    | lst o xs =>
      cases o with
      | true =>
        show W (match xs[xs.length - 1]? with
          | some d => .ok d (putE r i (.lst true xs.dropLast))
          | none => .bad) Q X t = WO ((xs[xs.length - 1]?).map fun d => (d, xs.dropLast)) _ _
        cases xs[xs.length - 1]? <;> with_unfolding_all rfl
      | false => with_unfolding_all rfl
    | _ => with_unfolding_all rfl
def popI (o : Option D) (k : D) : Option (D × List D) := match o, k with
  | some (.lst true xs), .int k => (ixq xs.length k).bind fun j => (xs[j]?).map fun d => (d, xs.eraseIdx j)
  | _, _ => none
theorem w_pop1 (i : Nat) (e : E) (r : Env) : W ((ev3 sg C (.pop1 i e)).v r) Q X t = W (hasL i r) (fun _ r => W ((ev3 sg C e).z r) (fun k r => WO (popI (peek r i) k) (fun p => Q p.1 (putE r i (.lst true p.2))) ⟨⟩) X ⟨⟩) X ⟨⟩ := by
  have h : ∀ (k : D) (r : Env), W (match peek r i, k with
    | some (.lst true xs), .int k => match ixq xs.length k with
      | some j => match xs[j]? with
        | some d => .ok d (putE r i (.lst true (xs.eraseIdx j)))
        | none => .bad
      | none => .bad
    | _, _ => .bad) Q X ⟨⟩ = WO (popI (peek r i) k) (fun p => Q p.1 (putE r i (.lst true p.2))) ⟨⟩ := by
    intro k r
    unfold popI
    cases peek r i with
    | none => with_unfolding_all rfl
    | some d =>
      cases d with
      | lst o xs =>
        cases o with
        | true =>
          cases k with
          | int k =>
            show W (match ixq xs.length k with
              | some j => match xs[j]? with
                | some d => .ok d (putE r i (.lst true (xs.eraseIdx j)))
                | none => .bad
              | none => .bad) Q X _ = WO ((ixq xs.length k).bind fun j => (xs[j]?).map fun d => (d, xs.eraseIdx j)) _ _
            cases ixq xs.length k with
            | none => with_unfolding_all rfl
            | some j =>
              show W (match xs[j]? with
                | some d => .ok d (putE r i (.lst true (xs.eraseIdx j)))
                | none => .bad) Q X _ = WO ((xs[j]?).map fun d => (d, xs.eraseIdx j)) _ _
              cases xs[j]? <;> with_unfolding_all rfl
          | _ => with_unfolding_all rfl
        | false => with_unfolding_all rfl
      | _ => with_unfolding_all rfl
  with_unfolding_all refine (W_bnd _ _).trans ?_
  congr 1
  · funext _ r
    with_unfolding_all refine (W_bnd _ _).trans ?_
    congr 1
    · funext k r; exact h k r
    · congr 1; funext k r; exact h k r
  · congr 1
    funext _ r
    with_unfolding_all refine (W_bnd _ _).trans ?_
    congr 1
    · funext k r; exact h k r
    · congr 1; funext k r; exact h k r
theorem w_index (a b : E) (r : Env) : W ((ev3 sg C (.index a b)).v r) Q X t = W ((ev3 sg C a).z r) (fun x r => W (((ev3 sg C b).z r).bnd fun y r => match x with | .lst false xs => if y.flat && xs.all D.flat then .lift ((xs.findIdx? fun z => D.eqv z y).map fun (k : Nat) => .int k) r else .bad | _ => .bad) Q X ⟨⟩) X ⟨⟩ := by with_unfolding_all exact W_bnd _ _
theorem w_lrng (a : E) (r : Env) : W ((ev3 sg C (.lrng a)).v r) Q X t = W ((ev3 sg C a).v r) (fun x r => W (.lift ((asInt x).bind fun n => (rng2q 0 n).map (.lst true)) r) Q X ⟨⟩) X ⟨⟩ := by with_unfolding_all exact W_bnd _ _
end
section
variable {sg : Sig} {C : Calls} {Q : List D → Env → Prop} {X : XC} {t : T2 Q X}
theorem w_rng1 (a : E) (r : Env) : W ((ev3 sg C (.rng1 a)).i r) Q X t = W ((ev3 sg C a).v r) (fun x r => W (.lift ((asInt x).bind fun n => rng2q 0 n) r) Q X ⟨⟩) X ⟨⟩ := by with_unfolding_all exact W_bnd _ _
theorem w_rng2 (a b : E) (r : Env) : W ((ev3 sg C (.rng2 a b)).i r) Q X t = W ((ev3 sg C a).v r) (fun x r => W (((ev3 sg C b).v r).bnd fun y r => .lift ((asInt x).bind fun l => (asInt y).bind fun h => rng2q l h) r) Q X ⟨⟩) X ⟨⟩ := by with_unfolding_all exact W_bnd _ _
theorem w_rng3 (a b c : E) (r : Env) : W ((ev3 sg C (.rng3 a b c)).i r) Q X t = W ((ev3 sg C a).v r) (fun x r => W (((ev3 sg C b).v r).bnd fun y r => ((ev3 sg C c).v r).bnd fun z r => .lift ((asInt x).bind fun l => (asInt y).bind fun h => (asInt z).bind fun s => rng3q l h s) r) Q X ⟨⟩) X ⟨⟩ := by with_unfolding_all exact W_bnd _ _
theorem w_enm (a : E) (r : Env) : W ((ev3 sg C (.enm a)).i r) Q X t = W ((ev3 sg C a).z r) (fun x r => W (.lift ((itemsq x).map (enumq 0)) r) Q X ⟨⟩) X ⟨⟩ := by with_unfolding_all exact W_bnd _ _
theorem w_zip (a b : E) (r : Env) : W ((ev3 sg C (.zip a b)).i r) Q X t = W ((ev3 sg C a).z r) (fun x r => W (((ev3 sg C b).z r).bnd fun y r => .lift ((itemsp x y).map fun p => zipq p.1 p.2) r) Q X ⟨⟩) X ⟨⟩ := by with_unfolding_all exact W_bnd _ _
theorem w_iV (i : Nat) (r : Env) : W ((ev3 sg C (.var i)).i r) Q X t = W (varV i r) (fun x r => W (.lift (iteq x.frz) r) Q X ⟨⟩) X ⟨⟩ := by with_unfolding_all exact W_bnd _ _
theorem w_i_sub (a i : E) (r : Env) : W ((ev3 sg C (.sub a i)).i r) Q X t = W ((ev3 sg C (.sub a i)).v r) (fun x r => W (.lift (iteq x.frz) r) Q X ⟨⟩) X ⟨⟩ := by with_unfolding_all exact W_bnd _ _
theorem w_i_slc (a : E) (lo hi : Option E) (r : Env) : W ((ev3 sg C (.slc a lo hi)).i r) Q X t = W ((ev3 sg C (.slc a lo hi)).v r) (fun x r => W (.lift (iteq x.frz) r) Q X ⟨⟩) X ⟨⟩ := by with_unfolding_all exact W_bnd _ _
theorem w_i_call (f : Nat) (es : List E) (pm : List Nat) (r : Env) : W ((ev3 sg C (.call f es pm)).i r) Q X t = W ((ev3 sg C (.call f es pm)).v r) (fun x r => W (.lift (iteq x.frz) r) Q X ⟨⟩) X ⟨⟩ := by with_unfolding_all exact W_bnd _ _
theorem w_i_tup (es : List E) (r : Env) : W ((ev3 sg C (.tup es)).i r) Q X t = W ((ev3 sg C (.tup es)).v r) (fun x r => W (.lift (iteq x.frz) r) Q X ⟨⟩) X ⟨⟩ := by with_unfolding_all exact W_bnd _ _
theorem w_i_comp (elt : E) (tg : T) (it : E) (cs : List E) (own : List Nat) (r : Env) : W ((ev3 sg C (.comp elt tg it cs own)).i r) Q X t = W ((ev3 sg C (.comp elt tg it cs own)).v r) (fun x r => W (.lift (iteq x.frz) r) Q X ⟨⟩) X ⟨⟩ := by with_unfolding_all exact W_bnd _ _
theorem w_evs0 (r : Env) : W (evs [] r) Q X t = Q [] r := by with_unfolding_all rfl
theorem w_evs (m : Md) (ms : List Md) (r : Env) : W (evs (m :: ms) r) Q X t = W (m.v r) (fun d r => W ((evs ms r).bnd fun ds r => .ok (d :: ds) r) Q X ⟨⟩) X ⟨⟩ := by with_unfolding_all exact W_bnd _ _
theorem w_evz0 (r : Env) : W (evz [] r) Q X t = Q [] r := by with_unfolding_all rfl
theorem w_evz (m : Md) (ms : List Md) (r : Env) : W (evz (m :: ms) r) Q X t = W (m.z r) (fun d r => W ((evz ms r).bnd fun ds r => .ok (d :: ds) r) Q X ⟨⟩) X ⟨⟩ := by with_unfolding_all exact W_bnd _ _
theorem w_evc0 (io : Option Nat) (n : Nat) (r : Env) : W (evc io n [] [] r) Q X t = Q [] r := by with_unfolding_all rfl
theorem w_evc (io : Option Nat) (n : Nat) (e : E) (es : List E) (m : Md) (ms : List Md) (r : Env) : W (evc io n (e :: es) (m :: ms) r) Q X t = W (if io = some n then Out.lift (e.slot?.bind (peek r)) r else m.z r) (fun d r => W ((evc io (n + 1) es ms r).bnd fun ds r => .ok (d :: ds) r) Q X ⟨⟩) X ⟨⟩ := by with_unfolding_all exact W_bnd _ _
end
section
variable {sg : Sig} {C : Calls} {Q : Option Int → Env → Prop} {X : XC} {t : T2 Q X}
theorem w_evo0 (r : Env) : W (evo none r) Q X t = Q none r := by with_unfolding_all rfl
theorem w_evo (m : Md) (r : Env) : W (evo (some m) r) Q X t = W (m.v r) (fun d r => WO (asInt d) (fun i => Q (some i) r) ⟨⟩) X ⟨⟩ := by
  have h : ∀ (d : D) (r : Env), W (Out.lift ((asInt d).map some) r) Q X ⟨⟩ = WO (asInt d) (fun i => Q (some i) r) ⟨⟩ := by
    intro d r; rw [W_lift, WO_map]
  with_unfolding_all refine (W_bnd _ _).trans ?_
  congr 1
  · funext d r; exact h d r
  · congr 1; funext d r; exact h d r
end
section
variable {sg : Sig} {C : Calls} {Q : Bool → Env → Prop} {X : XC} {t : T2 Q X}
theorem w_tV (i : Nat) (r : Env) : W ((ev3 sg C (.var i)).t r) Q X t = WO ((peek r i).bind tru) (fun b => Q b r) ⟨⟩ := by with_unfolding_all exact W_lift _ _
theorem w_tcbl (i : Bool) (r : Env) : W ((ev3 sg C (.cbl i)).t r) Q X t = Q i r := by with_unfolding_all rfl
theorem w_tnot (a : E) (r : Env) : W ((ev3 sg C (.not a)).t r) Q X t = W ((ev3 sg C a).t r) (fun b r => Q (!b) r) X ⟨⟩ := by with_unfolding_all exact W_bnd _ _
theorem w_tand (a b : E) (r : Env) : W ((ev3 sg C (.and a b)).t r) Q X t = W ((ev3 sg C a).t r) (fun c r => W (if c = true then (ev3 sg C b).t r else .ok false r) Q X ⟨⟩) X ⟨⟩ := by with_unfolding_all exact W_bnd _ _
theorem w_tor (a b : E) (r : Env) : W ((ev3 sg C (.or a b)).t r) Q X t = W ((ev3 sg C a).t r) (fun c r => W (if c = true then .ok true r else (ev3 sg C b).t r) Q X ⟨⟩) X ⟨⟩ := by with_unfolding_all exact W_bnd _ _
theorem w_tone (a : E) (r : Env) : W ((ev3 sg C (.one a)).t r) Q X t = W ((ev3 sg C a).t r) Q X ⟨⟩ := by with_unfolding_all rfl
theorem w_t_cmp (op : COp) (a b : E) (r : Env) : W ((ev3 sg C (.cmp op a b)).t r) Q X t = W ((ev3 sg C (.cmp op a b)).v r) (fun d r => W (.lift (tru d) r) Q X ⟨⟩) X ⟨⟩ := by with_unfolding_all exact W_bnd _ _
theorem w_t_chn (op op2 : COp) (a b c : E) (r : Env) : W ((ev3 sg C (.chn op op2 a b c)).t r) Q X t = W ((ev3 sg C (.chn op op2 a b c)).v r) (fun d r => W (.lift (tru d) r) Q X ⟨⟩) X ⟨⟩ := by with_unfolding_all exact W_bnd _ _
theorem w_t_call (f : Nat) (es : List E) (pm : List Nat) (r : Env) : W ((ev3 sg C (.call f es pm)).t r) Q X t = W ((ev3 sg C (.call f es pm)).v r) (fun d r => W (.lift (tru d) r) Q X ⟨⟩) X ⟨⟩ := by with_unfolding_all exact W_bnd _ _
theorem w_t_sub (a i : E) (r : Env) : W ((ev3 sg C (.sub a i)).t r) Q X t = W ((ev3 sg C (.sub a i)).v r) (fun d r => W (.lift (tru d) r) Q X ⟨⟩) X ⟨⟩ := by with_unfolding_all exact W_bnd _ _
theorem w_t_isi (a : E) (ty : Ty) (r : Env) : W ((ev3 sg C (.isi a ty)).t r) Q X t = W ((ev3 sg C (.isi a ty)).v r) (fun d r => W (.lift (tru d) r) Q X ⟨⟩) X ⟨⟩ := by with_unfolding_all exact W_bnd _ _
theorem w_t_bi (b : Bi) (a : E) (r : Env) : W ((ev3 sg C (.bi b a)).t r) Q X t = W ((ev3 sg C (.bi b a)).v r) (fun d r => W (.lift (tru d) r) Q X ⟨⟩) X ⟨⟩ := by with_unfolding_all exact W_bnd _ _
theorem w_t_bin (op : BOp) (a b : E) (r : Env) : W ((ev3 sg C (.bin op a b)).t r) Q X t = W ((ev3 sg C (.bin op a b)).v r) (fun d r => W (.lift (tru d) r) Q X ⟨⟩) X ⟨⟩ := by with_unfolding_all exact W_bnd _ _
theorem w_evts0 (r : Env) : W (evts [] r) Q X t = Q true r := by with_unfolding_all rfl
theorem w_evts (m : Md) (ms : List Md) (r : Env) : W (evts (m :: ms) r) Q X t = W (m.t r) (fun b r => W (if b = true then evts ms r else .ok false r) Q X ⟨⟩) X ⟨⟩ := by with_unfolding_all exact W_bnd _ _
end
section
variable {sg : Sig} {C : Calls}
theorem s_nil : ev3s sg C [] = [] := by with_unfolding_all rfl
theorem s_cons (e : E) (es : List E) : ev3s sg C (e :: es) = ev3 sg C e :: ev3s sg C es := by with_unfolding_all rfl
theorem o_none : ev3o sg C none = none := by with_unfolding_all rfl
theorem o_some (e : E) : ev3o sg C (some e) = some (ev3 sg C e) := by with_unfolding_all rfl
theorem ca_none (es : List E) (r : Env) (ds : List D) : callArgs none es r ds = some ds := by with_unfolding_all rfl
theorem ca_some (j : Nat) (es : List E) (r : Env) (ds : List D) : callArgs (some j) es r ds = ((es[j]?).bind E.slot?).bind fun s => (peek r s).map fun d => ds.set j d := by with_unfolding_all rfl
theorem pm_nil (io : Option Nat) (ds : List D) : perm io [] ds = some ds := by with_unfolding_all rfl
theorem pm_none (j : Nat) (js : List Nat) (ds : List D) : perm none (j :: js) ds = permL ds (j :: js) := by with_unfolding_all rfl
theorem pl_nil (ds : List D) : permL ds [] = some [] := by with_unfolding_all rfl
theorem pl_cons (ds : List D) (j : Nat) (js : List Nat) : permL ds (j :: js) = (ds[j]?).bind fun d => (permL ds js).map (d :: ·) := by with_unfolding_all rfl
theorem gb_none (es : List E) (f r : Env) : giveBack none es f r = r := by with_unfolding_all rfl
theorem gb_some (j : Nat) (es : List E) (f r : Env) : giveBack (some j) es f r = match (es[j]?).bind E.slot? with
    | some s => r.set s ((f[j]?).join)
    | none => r := by with_unfolding_all rfl
section
variable {Q : D → Env → Prop} {X : XC} {t : T2 Q X}
theorem w_has (i : Nat) (r : Env) : W (has i r) Q X t = WO (peek r i) (fun d => Q d r) ⟨⟩ := by with_unfolding_all exact W_lift _ _
def isL : Option D → Option D
  | some (.lst o xs) => some (.lst o xs)
  | _ => none
theorem isL_some (o : Bool) (xs : List D) : isL (some (.lst o xs)) = some (.lst o xs) := by with_unfolding_all rfl
theorem w_hasL (i : Nat) (r : Env) : W (hasL i r) Q X t = WO (isL (peek r i)) (fun d => Q d r) ⟨⟩ := by
  unfold hasL isL
  cases peek r i with
  | none => with_unfolding_all rfl
  | some d => cases d <;> with_unfolding_all rfl
end
end
/-! ### what statements do -/
section
variable {sg : Sig} {C : Calls} {N : Env → Prop} {R : D → Env → Prop} {B K : Env → Prop} {X : XC} {t : T5 N R B K X}
theorem x_asg (i : Nat) (e : E) (r : Env) : WS (ex sg C (.asg i e) r) N R B K X t = W ((ev3 sg C e).v r) (fun d r => WS (.nx (putE r i d)) N R B K X ⟨⟩) X ⟨⟩ := by with_unfolding_all exact WS_fin _ _
theorem x_asgT (is : List Nat) (e : E) (r : Env) : WS (ex sg C (.asgT is e) r) N R B K X t = W ((ev3 sg C e).z r) (fun d r => WO (bindT r (.tp is) d) N ⟨⟩) X ⟨⟩ := by
  have h : ∀ (d : D) (r : Env), WS (match bindT r (.tp is) d with | some r => .nx r | none => .bad) N R B K X ⟨⟩ = WO (bindT r (.tp is) d) N ⟨⟩ := by
    intro d r; cases bindT r (.tp is) d <;> with_unfolding_all rfl
  with_unfolding_all refine (WS_fin _ _).trans ?_
  congr 1
  · funext d r; exact h d r
  · congr 1; funext d r; exact h d r
theorem x_par (is : List Nat) (es : List E) (r : Env) : WS (ex sg C (.par is es) r) N R B K X t = W (evs (ev3s sg C es) r) (fun ds r => WO (putsE r is ds) N ⟨⟩) X ⟨⟩ := by
  have h : ∀ (ds : List D) (r : Env), WS (match putsE r is ds with | some r => .nx r | none => .bad) N R B K X ⟨⟩ = WO (putsE r is ds) N ⟨⟩ := by
    intro ds r; cases putsE r is ds <;> with_unfolding_all rfl
  with_unfolding_all refine (WS_fin _ _).trans ?_
  congr 1
  · funext d r; exact h d r
  · congr 1; funext d r; exact h d r
theorem x_aug (i : Nat) (op : BOp) (e : E) (r : Env) : WS (ex sg C (.aug i op e) r) N R B K X t = WO (peek r i) (fun x => W ((ev3 sg C e).z r) (fun y r => WO (augop op x y) (fun z => N (putE r i z)) ⟨⟩) X ⟨⟩) ⟨⟩ := by
  show WS (match peek r i with
    | some x => ((ev3 sg C e).z r).fin fun y r => match augop op x y with
      | some z => .nx (putE r i z)
      | none => .bad
    | none => .bad) N R B K X t = _
  cases peek r i with
  | none => with_unfolding_all rfl
  | some x =>
    have h : ∀ (y : D) (r : Env), WS (match augop op x y with | some z => .nx (putE r i z) | none => .bad) N R B K X ⟨⟩ = WO (augop op x y) (fun z => N (putE r i z)) ⟨⟩ := by
      intro y r; cases augop op x y <;> with_unfolding_all rfl
    with_unfolding_all refine (WS_fin _ _).trans ?_
    with_unfolding_all show _ = W _ _ _ ⟨⟩
    congr 1
    · funext d r; exact h d r
    · congr 1; funext d r; exact h d r
def setD (o : Option D) (k d : D) : Option D := match o, k with
  | some (.lst true xs), .int k => (ixq xs.length k).map fun j => .lst true (xs.set j d)
  | some (.dic true ks vs), k => if k.keyOk && decide (ks.length < SZ) then some (.dic true (putq k d ks vs).1 (putq k d ks vs).2) else none
  | _, _ => none
theorem setD_L (xs : List D) (k : Int) (d : D) : setD (some (.lst true xs)) (.int k) d = (ixq xs.length k).map fun j => .lst true (xs.set j d) := by with_unfolding_all rfl
theorem setD_D (ks vs : List D) (k d : D) : setD (some (.dic true ks vs)) k d = if k.keyOk && decide (ks.length < SZ) then some (.dic true (putq k d ks vs).1 (putq k d ks vs).2) else none := by
  cases k <;> with_unfolding_all rfl
theorem setx_h (i : Nat) (k d : D) (r : Env) : WS (match peek r i, k with
    | some (.lst true xs), .int k => match ixq xs.length k with
      | some j => .nx (putE r i (.lst true (xs.set j d)))
      | none => .bad
    | some (.dic true ks vs), k => if k.keyOk && decide (ks.length < SZ) then .nx (putE r i (.dic true (putq k d ks vs).1 (putq k d ks vs).2)) else .bad
    | _, _ => .bad) N R B K X ⟨⟩ = WO (setD (peek r i) k d) (fun z => N (putE r i z)) ⟨⟩ := by
  cases peek r i with
  | none => with_unfolding_all rfl
  | some x =>
    cases x with
    | lst o xs =>
      cases o with
      | true =>
        cases k with
        | int k =>
          show WS (match ixq xs.length k with
            | some j => .nx (putE r i (.lst true (xs.set j d)))
            | none => .bad) N R B K X ⟨⟩ = WO ((ixq xs.length k).map fun j => D.lst true (xs.set j d)) _ _
          cases ixq xs.length k <;> with_unfolding_all rfl
        | _ => with_unfolding_all rfl
      | false => with_unfolding_all rfl
    | dic o ks vs =>
      cases o with
      | true =>
        rw [setD_D]
        show WS (if k.keyOk && decide (ks.length < SZ) then _ else _) N R B K X ⟨⟩ = _
        by_cases h : (k.keyOk && decide (ks.length < SZ)) = true
        · rw [if_pos h, if_pos h]; with_unfolding_all rfl
        · rw [if_neg h, if_neg h]; with_unfolding_all rfl
      | false => with_unfolding_all rfl
    | _ => with_unfolding_all rfl
theorem x_setx (i : Nat) (k e : E) (r : Env) : WS (ex sg C (.setx i k e) r) N R B K X t = W ((ev3 sg C e).z r) (fun d r => W (has i r) (fun _ r => W ((ev3 sg C k).z r) (fun k r => WO (setD (peek r i) k d) (fun z => N (putE r i z)) ⟨⟩) X ⟨⟩) X ⟨⟩) X ⟨⟩ := by
  have h2 : ∀ (d : D) (r : Env), WS (((ev3 sg C k).z r).fin fun k r => match peek r i, k with
    | some (.lst true xs), .int k => match ixq xs.length k with
      | some j => .nx (putE r i (.lst true (xs.set j d)))
      | none => .bad
    | some (.dic true ks vs), k => if k.keyOk && decide (ks.length < SZ) then .nx (putE r i (.dic true (putq k d ks vs).1 (putq k d ks vs).2)) else .bad
    | _, _ => .bad) N R B K X ⟨⟩ = W ((ev3 sg C k).z r) (fun k r => WO (setD (peek r i) k d) (fun z => N (putE r i z)) ⟨⟩) X ⟨⟩ := by
    intro d r
    with_unfolding_all refine (WS_fin _ _).trans ?_
    congr 1
    · funext k r; exact setx_h i k d r
    · congr 1; funext k r; exact setx_h i k d r
  have h3 : ∀ (d : D) (r : Env), WS ((has i r).fin fun _ r => ((ev3 sg C k).z r).fin fun k r => match peek r i, k with
    | some (.lst true xs), .int k => match ixq xs.length k with
      | some j => .nx (putE r i (.lst true (xs.set j d)))
      | none => .bad
    | some (.dic true ks vs), k => if k.keyOk && decide (ks.length < SZ) then .nx (putE r i (.dic true (putq k d ks vs).1 (putq k d ks vs).2)) else .bad
    | _, _ => .bad) N R B K X ⟨⟩ = W (has i r) (fun _ r => W ((ev3 sg C k).z r) (fun k r => WO (setD (peek r i) k d) (fun z => N (putE r i z)) ⟨⟩) X ⟨⟩) X ⟨⟩ := by
    intro d r
    with_unfolding_all refine (WS_fin _ _).trans ?_
    congr 1
    · funext _ r; exact h2 d r
    · congr 1; funext _ r; exact h2 d r
  with_unfolding_all refine (WS_fin _ _).trans ?_
  congr 1
  · funext d r; exact h3 d r
  · congr 1; funext d r; exact h3 d r
def appD (o : Option D) (d : D) : Option D := match o with
  | some (.lst true xs) => if xs.length < SZ then some (.lst true (xs ++ [d])) else none
  | _ => none
theorem appD_L (xs : List D) (d : D) : appD (some (.lst true xs)) d = if xs.length < SZ then some (.lst true (xs ++ [d])) else none := by with_unfolding_all rfl
theorem app_h (i : Nat) (d : D) (r : Env) : WS (match peek r i with
    | some (.lst true xs) => if xs.length < SZ then .nx (putE r i (.lst true (xs ++ [d]))) else .bad
    | _ => .bad) N R B K X ⟨⟩ = WO (appD (peek r i) d) (fun z => N (putE r i z)) ⟨⟩ := by
  cases peek r i with
  | none => with_unfolding_all rfl
  | some x =>
    cases x with
    | lst o xs =>
      cases o with
      | true =>
        rw [appD_L]
        show WS (if xs.length < SZ then _ else _) N R B K X ⟨⟩ = _
        by_cases h : xs.length < SZ
        · rw [if_pos h, if_pos h]; with_unfolding_all rfl
        · rw [if_neg h, if_neg h]; with_unfolding_all rfl
      | false => with_unfolding_all rfl
    | _ => with_unfolding_all rfl
theorem x_app (i : Nat) (e : E) (r : Env) : WS (ex sg C (.app i e) r) N R B K X t = W (hasL i r) (fun _ r => W ((ev3 sg C e).z r) (fun d r => WO (appD (peek r i) d) (fun z => N (putE r i z)) ⟨⟩) X ⟨⟩) X ⟨⟩ := by
  have h2 : ∀ (r : Env), WS (((ev3 sg C e).z r).fin fun d r => match peek r i with
    | some (.lst true xs) => if xs.length < SZ then .nx (putE r i (.lst true (xs ++ [d]))) else .bad
    | _ => .bad) N R B K X ⟨⟩ = W ((ev3 sg C e).z r) (fun d r => WO (appD (peek r i) d) (fun z => N (putE r i z)) ⟨⟩) X ⟨⟩ := by
    intro r
    with_unfolding_all refine (WS_fin _ _).trans ?_
    congr 1
    · funext d r; exact app_h i d r
    · congr 1; funext d r; exact app_h i d r
  with_unfolding_all refine (WS_fin _ _).trans ?_
  congr 1
  · funext d r; exact h2 r
  · congr 1; funext d r; exact h2 r
theorem x_expr (e : E) (r : Env) : WS (ex sg C (.expr e) r) N R B K X t = W ((ev3 sg C e).v r) (fun _ r => N r) X ⟨⟩ := by with_unfolding_all exact WS_fin _ _
theorem x_ret (e : E) (r : Env) : WS (ex sg C (.ret e) r) N R B K X t = W ((ev3 sg C e).v r) R X ⟨⟩ := by with_unfolding_all exact WS_fin _ _
theorem x_retN (r : Env) : WS (ex sg C .retN r) N R B K X t = R .non r := by with_unfolding_all rfl
theorem x_ite (c : E) (a b : List S) (r : Env) : WS (ex sg C (.ite c a b) r) N R B K X t = W ((ev3 sg C c).t r) (fun tt r => if tt = true then WS (exs sg C a r) N R B K X ⟨⟩ else WS (exs sg C b r) N R B K X ⟨⟩) X ⟨⟩ := by
  have h : ∀ (tt : Bool) (r : Env), WS (if tt = true then exs sg C a r else exs sg C b r) N R B K X ⟨⟩ = if tt = true then WS (exs sg C a r) N R B K X ⟨⟩ else WS (exs sg C b r) N R B K X ⟨⟩ := fun tt r => WS_ite _ _ _
  with_unfolding_all refine (WS_fin _ _).trans ?_
  congr 1
  · funext d r; exact h d r
  · congr 1; funext d r; exact h d r
theorem x_whl (c : E) (b : List S) (r : Env) : WS (ex sg C (.whl c b) r) N R B K X t = WS (whL (ev3 sg C c).t (exs sg C b) WH r) N R B K X ⟨⟩ := by with_unfolding_all rfl
/-- a for's turn -/
def fF (sg : Sig) (C : Calls) (tg : T) (b : List S) : D → Env → Res := fun x r => match bindT r tg x with
    | some r => exs sg C b r
    | none => .bad
theorem x_for (tg : T) (it : E) (b : List S) (r : Env) : WS (ex sg C (.for_ tg it b) r) N R B K X t = W ((ev3 sg C it).i r) (fun xs r => WS (forL (fF sg C tg b) xs r) N R B K X ⟨⟩) X ⟨⟩ := by with_unfolding_all exact WS_fin _ _
theorem x_brk (r : Env) : WS (ex sg C .brk r) N R B K X t = B r := by with_unfolding_all rfl
theorem x_cnt (r : Env) : WS (ex sg C .cnt r) N R B K X t = K r := by with_unfolding_all rfl
theorem x_pass (r : Env) : WS (ex sg C .pass r) N R B K X t = N r := by with_unfolding_all rfl
theorem WS_nil (r : Env) : WS (exs sg C [] r) N R B K X t = N r := by with_unfolding_all rfl
theorem WS_cons (s : S) (ss : List S) (r : Env) : WS (exs sg C (s :: ss) r) N R B K X t = WS (ex sg C s r) (fun r => WS (exs sg C ss r) N R B K X ⟨⟩) R B K X ⟨⟩ := by
  show WS (match ex sg C s r with | .nx r => exs sg C ss r | o => o) N R B K X t = _
  cases ex sg C s r <;> with_unfolding_all rfl
theorem WS_fF (tg : T) (b : List S) (x : D) (r : Env) : WS (fF sg C tg b x r) N R B K X t = WO (bindT r tg x) (fun r => WS (exs sg C b r) N R B K X ⟨⟩) ⟨⟩ := by
  unfold fF
  cases bindT r tg x <;> with_unfolding_all rfl
end
section
variable {sg : Sig} {C : Calls} {Q : Option D → Env → Prop} {X : XC} {t : T2 Q X}
theorem W_cF (elt : E) (tg : T) (cs : List E) (x : D) (r : Env) : W (cF sg C elt tg cs x r) Q X t = WO (bindT r tg x) (fun r => W (evts (ev3s sg C cs) r) (fun b r => if b = true then W ((ev3 sg C elt).z r) (fun d r => Q (some d) r) X ⟨⟩ else Q none r) X ⟨⟩) ⟨⟩ := by
  have h : ∀ (b : Bool) (r : Env), W (if b then ((ev3 sg C elt).z r).bnd (fun d r => .ok (some d) r) else .ok none r) Q X ⟨⟩ = if b = true then W ((ev3 sg C elt).z r) (fun d r => Q (some d) r) X ⟨⟩ else Q none r := by
    intro b r
    cases b with
    | true => with_unfolding_all exact W_bnd _ _
    | false => with_unfolding_all rfl
  unfold cF
  cases bindT r tg x with
  | none => with_unfolding_all rfl
  | some r =>
    with_unfolding_all refine (W_bnd _ _).trans ?_
    with_unfolding_all show _ = W _ _ _ ⟨⟩
    congr 1
    · funext d r; exact h d r
    · congr 1; funext d r; exact h d r
end
section
theorem simple_var (i : Nat) : E.simple (.var i) = true := by with_unfolding_all rfl
theorem simple_cint (i : Int) : E.simple (.cint i) = true := by with_unfolding_all rfl
theorem simple_cbl (i : Bool) : E.simple (.cbl i) = true := by with_unfolding_all rfl
theorem simple_cnon  : E.simple (.cnon) = true := by with_unfolding_all rfl
theorem simple_cstr (x : List Nat) : E.simple (.cstr x) = true := by with_unfolding_all rfl
theorem simple_bin (op : BOp) (a b : E) : E.simple (.bin op a b) = false := by with_unfolding_all rfl
theorem simple_neg (a : E) : E.simple (.neg a) = false := by with_unfolding_all rfl
theorem simple_sub (a b : E) : E.simple (.sub a b) = false := by with_unfolding_all rfl
theorem simple_slc (a : E) (l h : Option E) : E.simple (.slc a l h) = false := by with_unfolding_all rfl
theorem simple_call (f : Nat) (es : List E) (pm : List Nat) : E.simple (.call f es pm) = false := by with_unfolding_all rfl
theorem simple_bi (b : Bi) (a : E) : E.simple (.bi b a) = false := by with_unfolding_all rfl
theorem simple_bi2 (b : Bi2) (a c : E) : E.simple (.bi2 b a c) = false := by with_unfolding_all rfl
theorem simple_isi (a : E) (ty : Ty) : E.simple (.isi a ty) = false := by with_unfolding_all rfl
theorem simple_lst (es : List E) : E.simple (.lst es) = false := by with_unfolding_all rfl
theorem simple_tup (es : List E) : E.simple (.tup es) = false := by with_unfolding_all rfl
theorem simple_comp (e : E) (tg : T) (i : E) (cs : List E) (o : List Nat) : E.simple (.comp e tg i cs o) = false := by with_unfolding_all rfl
theorem slot_var (i : Nat) : E.slot? (.var i) = some i := by with_unfolding_all rfl
theorem slot_bad  : E.slot? (.bad) = none := by with_unfolding_all rfl
theorem slot_cint (i : Int) : E.slot? (.cint i) = none := by with_unfolding_all rfl
theorem slot_cbl (i : Bool) : E.slot? (.cbl i) = none := by with_unfolding_all rfl
theorem slot_cnon  : E.slot? (.cnon) = none := by with_unfolding_all rfl
theorem slot_cstr (x : List Nat) : E.slot? (.cstr x) = none := by with_unfolding_all rfl
theorem slot_bin (op : BOp) (a b : E) : E.slot? (.bin op a b) = none := by with_unfolding_all rfl
theorem slot_neg (a : E) : E.slot? (.neg a) = none := by with_unfolding_all rfl
theorem slot_cmp (op : COp) (a b : E) : E.slot? (.cmp op a b) = none := by with_unfolding_all rfl
theorem slot_chn (o p : COp) (a b c : E) : E.slot? (.chn o p a b c) = none := by with_unfolding_all rfl
theorem slot_not (a : E) : E.slot? (.not a) = none := by with_unfolding_all rfl
theorem slot_and (a b : E) : E.slot? (.and a b) = none := by with_unfolding_all rfl
theorem slot_or (a b : E) : E.slot? (.or a b) = none := by with_unfolding_all rfl
theorem slot_ifx (a b c : E) : E.slot? (.ifx a b c) = none := by with_unfolding_all rfl
theorem slot_one (a : E) : E.slot? (.one a) = none := by with_unfolding_all rfl
theorem slot_tup (es : List E) : E.slot? (.tup es) = none := by with_unfolding_all rfl
theorem slot_lst (es : List E) : E.slot? (.lst es) = none := by with_unfolding_all rfl
theorem slot_sub (a b : E) : E.slot? (.sub a b) = none := by with_unfolding_all rfl
theorem slot_slc (a : E) (l h : Option E) : E.slot? (.slc a l h) = none := by with_unfolding_all rfl
theorem slot_call (f : Nat) (es : List E) (pm : List Nat) : E.slot? (.call f es pm) = none := by with_unfolding_all rfl
theorem slot_bi (b : Bi) (a : E) : E.slot? (.bi b a) = none := by with_unfolding_all rfl
theorem slot_bi2 (b : Bi2) (a c : E) : E.slot? (.bi2 b a c) = none := by with_unfolding_all rfl
theorem slot_isi (a : E) (ty : Ty) : E.slot? (.isi a ty) = none := by with_unfolding_all rfl
theorem slot_comp (e : E) (tg : T) (i : E) (cs : List E) (o : List Nat) : E.slot? (.comp e tg i cs o) = none := by with_unfolding_all rfl
theorem slot_lrng (a : E) : E.slot? (.lrng a) = none := by with_unfolding_all rfl
theorem slot_pop0 (i : Nat) : E.slot? (.pop0 i) = none := by with_unfolding_all rfl
theorem slot_pop1 (i : Nat) (e : E) : E.slot? (.pop1 i e) = none := by with_unfolding_all rfl
theorem slot_index (a b : E) : E.slot? (.index a b) = none := by with_unfolding_all rfl
end
section
theorem bt_nm (r : Env) (i : Nat) (d : D) : bindT r (.nm i) d = some (putE r i d) := by with_unfolding_all rfl
theorem bt_tp (r : Env) (is : List Nat) (ds : List D) : bindT r (.tp is) (.tup ds) = putsE r is ds := by with_unfolding_all rfl
theorem pu_nil (r : Env) : putsE r [] [] = some r := by with_unfolding_all rfl
theorem pu_cons (r : Env) (i : Nat) (is : List Nat) (d : D) (ds : List D) : putsE r (i :: is) (d :: ds) = putsE (putE r i d) is ds := by with_unfolding_all rfl
end
/-! ### variables -/
theorem pk_z (a : Option D) (r : Env) : peek (a :: r) 0 = a := by cases a <;> with_unfolding_all rfl
theorem pk_s (a : Option D) (r : Env) (i : Nat) : peek (a :: r) (i + 1) = peek r i := by with_unfolding_all rfl
theorem pt_z (a : Option D) (r : Env) (d : D) : putE (a :: r) 0 d = some d :: r := by with_unfolding_all rfl
theorem pt_s (a : Option D) (r : Env) (i : Nat) (d : D) : putE (a :: r) (i + 1) d = a :: putE r i d := by with_unfolding_all rfl
theorem oz_nil (r : Env) : ownZ r [] = true := by with_unfolding_all rfl
def zq (o : Option D) : Bool := match o with
  | some d => d.isZ
  | none => true
theorem zq_none : zq none = true := by with_unfolding_all rfl
theorem zq_some (d : D) : zq (some d) = d.isZ := by with_unfolding_all rfl
theorem oz_cons (r : Env) (v : Nat) (vs : List Nat) : ownZ r (v :: vs) = (zq (peek r v) && ownZ r vs) := by with_unfolding_all rfl
theorem wp_nil (r : Env) : wipeE r [] = r := by with_unfolding_all rfl
theorem wp_cons (r : Env) (v : Nat) (vs : List Nat) : wipeE r (v :: vs) = (wipeE r vs).set v none := by with_unfolding_all rfl
theorem bk_nil (r0 r : Env) : backE r0 r [] = r := by with_unfolding_all rfl
theorem bk_cons (r0 r : Env) (v : Nat) (vs : List Nat) : backE r0 r (v :: vs) = (backE r0 r vs).set v (peek r0 v) := by with_unfolding_all rfl
theorem fe_none (n : Nat) (r : Env) : finE none n r = List.replicate n none := by
  unfold finE
  apply List.ext_getElem
  · simp
  · intro i h1 h2; simp
theorem fe_0 (n : Nat) (r : Env) : finE (some 0) (n + 1) r = peek r 0 :: List.replicate n none := by
  unfold finE
  apply List.ext_getElem
  · simp
  · intro i h1 h2
    cases i with
    | zero => simp
    | succ i => simp
theorem fe_1 (n : Nat) (r : Env) : finE (some 1) (n + 2) r = none :: peek r 1 :: List.replicate n none := by
  unfold finE
  apply List.ext_getElem
  · simp
  · intro i h1 h2
    match i with
    | 0 => simp
    | 1 => simp
    | i + 2 => simp
theorem jn_some (x : Option D) : Option.join (some x) = x := by cases x <;> with_unfolding_all rfl
/-! ### calls, loops -/
theorem W_runF {sg : Sig} {C : Calls} {f : Fn} {ds : List D} {Q : D → Env → Prop} {X : XC} {t} (h : ds.length = f.np) : W (runF sg C f ds) Q X t = WS (exs sg C f.body (ds.map some ++ List.replicate (f.nn - f.np) none)) (fun r => Q .non (finE f.io f.np r)) (fun d r => Q d (finE f.io f.np r)) (fun _ => False) (fun _ => False) (fun c xs r => X c xs (finE f.io f.np r)) ⟨⟩ := by
  unfold runF
  rw [if_pos h]
  cases exs sg C f.body (ds.map some ++ List.replicate (f.nn - f.np) none) <;> with_unfolding_all rfl
theorem W_call {fs : List Fn} {k i : Nat} {fn : Fn} {ds : List D} {Q : D → Env → Prop} {X : XC} {t} (hf : fs[i]? = some fn) (h : ds.length = fn.np) (h2 : WS (exs (sigOf fs) (callN fs k) fn.body (ds.map some ++ List.replicate (fn.nn - fn.np) none)) (fun r => Q .non (finE fn.io fn.np r)) (fun d r => Q d (finE fn.io fn.np r)) (fun _ => False) (fun _ => False) (fun c xs r => X c xs (finE fn.io fn.np r)) ⟨⟩) : W (callN fs (k + 1) i ds) Q X t := by
  rw [callN_at hf, W_runF h]; with_unfolding_all exact h2
theorem W_mono {α : Type} {o : Out α} {Q Q' : α → Env → Prop} {X : XC} {t t'} (h : W o Q X t) (h2 : ∀ a r, Q a r → Q' a r) : W o Q' X t' := by
  cases o with
  | ok a r => with_unfolding_all exact h2 a r h
  | exn c xs r => with_unfolding_all exact h
  | bad => with_unfolding_all exact h
theorem W_of {α : Type} {o : Out α} {Q : α → Env → Prop} {X : XC} {t} {a : α} {r : Env} (h : o = .ok a r) (h2 : Q a r) : W o Q X t := by rw [h]; with_unfolding_all exact h2
theorem W_ex {α : Type} {o : Out α} {Q : α → Env → Prop} (h : W o Q (fun _ _ _ => False) ⟨⟩) : ∃ a r, o = .ok a r ∧ Q a r := by
  cases o with
  | ok a r => with_unfolding_all exact ⟨a, r, rfl, h⟩
  | exn c xs r => with_unfolding_all exact h.elim
  | bad => with_unfolding_all exact h.elim
theorem WS_mono {o : Res} {N N' : Env → Prop} {R R' : D → Env → Prop} {B B' K K' : Env → Prop} {X : XC} {t t'} (h : WS o N R B K X t) (hN : ∀ r, N r → N' r) (hR : ∀ d r, R d r → R' d r) (hB : ∀ r, B r → B' r) (hK : ∀ r, K r → K' r) : WS o N' R' B' K' X t' := by
  cases o with
  | nx r => with_unfolding_all exact hN r h
  | rt d r => with_unfolding_all exact hR d r h
  | bk r => with_unfolding_all exact hB r h
  | ct r => with_unfolding_all exact hK r h
  | exn c xs r => with_unfolding_all exact h
  | bad => with_unfolding_all exact h
theorem forW {f : D → Env → Res} {xs : List D} {r : Env} {N : Env → Prop} {R : D → Env → Prop} {B K : Env → Prop} {X : XC} {t} (I : List D → Env → Prop) (h0 : I xs r) (step : ∀ x xs r, I (x :: xs) r → WS (f x r) (I xs) R N (I xs) X ⟨⟩) (fin : ∀ r, I [] r → N r) : WS (forL f xs r) N R B K X t := by
  induction xs generalizing r with
  | nil => with_unfolding_all exact fin r h0
  | cons x xs ih =>
    have h := step x xs r h0
    unfold forL
    cases e : f x r with
    | nx r' => rw [e] at h; with_unfolding_all exact ih h
    | ct r' => rw [e] at h; with_unfolding_all exact ih h
    | bk r' => rw [e] at h; with_unfolding_all exact h
    | rt d r' => rw [e] at h; with_unfolding_all exact h
    | exn c ys r' => rw [e] at h; with_unfolding_all exact h
    | bad => rw [e] at h; with_unfolding_all exact h
theorem compW {own : List Nat} {f : D → Env → Out (Option D)} {xs : List D} {r : Env} {Q : List D → Env → Prop} {X : XC} {t} (I : List D → Env → List D → Prop) (h0 : I xs r []) (step : ∀ x xs r acc, I (x :: xs) r acc → W (f x (wipeE r own)) (fun o r' => I xs r' (acc ++ o.toList)) X ⟨⟩) (fin : ∀ r acc, I [] r acc → Q acc r) : W (compL own f xs r) Q X t := by
  suffices h : ∀ acc, I xs r acc → W (compL own f xs r) (fun ys r => Q (acc ++ ys) r) X ⟨⟩ by
    have := h [] h0
    with_unfolding_all exact W_mono this fun a r h => h
  clear h0
  induction xs generalizing r with
  | nil => intro acc h; (with_unfolding_all show Q (acc ++ []) r); rw [List.append_nil]; with_unfolding_all exact fin r acc h
  | cons x xs ih =>
    intro acc h
    have h1 := step x xs r acc h
    show W ((f x (wipeE r own)).bnd _) _ X _
    rw [W_bnd]
    refine W_mono h1 fun o r1 h2 => ?_
    show W ((compL own f xs r1).bnd _) _ X _
    rw [W_bnd]
    refine W_mono (ih _ h2) fun ys r2 h3 => ?_
    with_unfolding_all show Q (acc ++ (o.toList ++ ys)) r2
    rw [← List.append_assoc]; with_unfolding_all exact h3
theorem whW {c : Env → Out Bool} {f : Env → Res} {m : Nat} {r : Env} {N : Env → Prop} {R : D → Env → Prop} {B K : Env → Prop} {X : XC} {t} (n : Nat) (I : Nat → Env → Prop) (hm : n < m) (h0 : I n r) (step : ∀ n r, I n r → W (c r) (fun b r => if b = true then WS (f r) (fun r => ∃ n', n' < n ∧ I n' r) R N (fun r => ∃ n', n' < n ∧ I n' r) X ⟨⟩ else N r) X ⟨⟩) : WS (whL c f m r) N R B K X t := by
  induction m generalizing n r with
  | zero => omega
  | succ m ih =>
    have h := step n r h0
    unfold whL
    rw [WS_fin]
    refine W_mono h fun b r1 h1 => ?_
    cases b with
    | false => rw [if_neg (by decide)] at h1 ⊢; with_unfolding_all exact h1
    | true =>
      rw [if_pos rfl] at h1 ⊢
      cases e : f r1 with
      | nx r' => rw [e] at h1; (first | rw [WS_nx] at h1 | rw [WS_ct] at h1); obtain ⟨n', hn, hI⟩ := h1; with_unfolding_all exact ih n' (by omega) hI
      | ct r' => rw [e] at h1; (first | rw [WS_nx] at h1 | rw [WS_ct] at h1); obtain ⟨n', hn, hI⟩ := h1; with_unfolding_all exact ih n' (by omega) hI
      | bk r' => rw [e] at h1; with_unfolding_all exact h1
      | rt d r' => rw [e] at h1; with_unfolding_all exact h1
      | exn c ys r' => rw [e] at h1; with_unfolding_all exact h1
      | bad => rw [e] at h1; with_unfolding_all exact h1
end Sf
end
section
namespace K84
open Sf
def f_is_number : Fn := { np := 1, nn := 1, io := none, body := [Sf.S.ret (Sf.E.and (Sf.E.isi (Sf.E.var 0) (Sf.Ty.int)) (Sf.E.one (Sf.E.not (Sf.E.isi (Sf.E.var 0) (Sf.Ty.bool)))))] }
def f_nexts_of : Fn := { np := 1, nn := 2, io := none, body := [Sf.S.asg 1 (Sf.E.sub (Sf.E.var 0) (Sf.E.cint 0)), Sf.S.ite (Sf.E.or (Sf.E.cmp (Sf.COp.eq) (Sf.E.var 1) (Sf.E.cstr [108, 111, 111, 107])) (Sf.E.one (Sf.E.cmp (Sf.COp.eq) (Sf.E.var 1) (Sf.E.cstr [100, 114, 97, 119])))) [Sf.S.ret (Sf.E.tup [Sf.E.sub (Sf.E.var 0) (Sf.E.cint 2), Sf.E.sub (Sf.E.var 0) (Sf.E.cint 3)])] [], Sf.S.ite (Sf.E.cmp (Sf.COp.eq) (Sf.E.var 1) (Sf.E.cstr [98, 108, 111, 99, 107])) [Sf.S.ret (Sf.E.sub (Sf.E.var 0) (Sf.E.cint 3))] [], Sf.S.ite (Sf.E.cmp (Sf.COp.eq) (Sf.E.var 1) (Sf.E.cstr [116, 101, 108, 108])) [Sf.S.ret (Sf.E.tup [Sf.E.sub (Sf.E.var 0) (Sf.E.cint 2)])] [], Sf.S.ite (Sf.E.cmp (Sf.COp.eq) (Sf.E.var 1) (Sf.E.cstr [99, 104, 111, 111, 115, 101])) [Sf.S.ret (Sf.E.sub (Sf.E.var 0) (Sf.E.cint 1))] [], Sf.S.ret (Sf.E.tup [])] }
def f_walk : Fn := { np := 2, nn := 8, io := none, body := [Sf.S.asg 2 (Sf.E.sub (Sf.E.var 0) (Sf.E.cint 2)), Sf.S.asg 3 (Sf.E.cint 0), Sf.S.asg 4 (Sf.E.cint 0), Sf.S.asg 5 (Sf.E.lst []), Sf.S.whl (Sf.E.cbl true) [Sf.S.asg 6 (Sf.E.sub (Sf.E.var 2) (Sf.E.var 3)), Sf.S.ite (Sf.E.cmp (Sf.COp.eq) (Sf.E.sub (Sf.E.var 6) (Sf.E.cint 0)) (Sf.E.cstr [116, 101, 108, 108])) [Sf.S.app 5 (Sf.E.sub (Sf.E.var 6) (Sf.E.cint 1)), Sf.S.asg 3 (Sf.E.sub (Sf.E.var 6) (Sf.E.cint 2))] [Sf.S.ite (Sf.E.or (Sf.E.cmp (Sf.COp.eq) (Sf.E.sub (Sf.E.var 6) (Sf.E.cint 0)) (Sf.E.cstr [101, 110, 100])) (Sf.E.one (Sf.E.cmp (Sf.COp.eq) (Sf.E.var 4) (Sf.E.bi (Sf.Bi.len) (Sf.E.var 1))))) [Sf.S.ret (Sf.E.tup [Sf.E.var 3, Sf.E.bi (Sf.Bi.tuple) (Sf.E.bi (Sf.Bi.sorted) (Sf.E.var 5)), Sf.E.slc (Sf.E.var 1) (some (Sf.E.var 4)) none])] [Sf.S.asg 7 (Sf.E.call 1 [Sf.E.var 6] []), Sf.S.ite (Sf.E.or (Sf.E.not (Sf.E.call 0 [Sf.E.sub (Sf.E.var 1) (Sf.E.var 4)] [])) (Sf.E.one (Sf.E.not (Sf.E.chn (Sf.COp.le) (Sf.COp.lt) (Sf.E.cint 0) (Sf.E.sub (Sf.E.var 1) (Sf.E.var 4)) (Sf.E.bi (Sf.Bi.len) (Sf.E.var 7)))))) [Sf.S.bad] [], Sf.S.asg 3 (Sf.E.sub (Sf.E.var 7) (Sf.E.sub (Sf.E.var 1) (Sf.E.var 4))), Sf.S.aug 4 (Sf.BOp.add) (Sf.E.cint 1)]]]] }
def f_lower : Fn := { np := 3, nn := 5, io := none, body := [Sf.S.for_ (Sf.T.tp [3, 4]) (Sf.E.enm (Sf.E.var 0)) [Sf.S.ite (Sf.E.cmp (Sf.COp.eq) (Sf.E.sub (Sf.E.call 2 [Sf.E.var 4, Sf.E.var 2] []) (Sf.E.cint 1)) (Sf.E.tup [])) [Sf.S.ret (Sf.E.bin (Sf.BOp.sub) (Sf.E.var 3) (Sf.E.cint 1))] []], Sf.S.ret (Sf.E.bin (Sf.BOp.sub) (Sf.E.bi (Sf.Bi.len) (Sf.E.var 0)) (Sf.E.cint 1))] }
def f_hopes : Fn := { np := 1, nn := 6, io := none, body := [Sf.S.asg 1 (Sf.E.bin (Sf.BOp.mul) (Sf.E.lst [Sf.E.cbl false]) (Sf.E.bi (Sf.Bi.len) (Sf.E.var 0))), Sf.S.asg 2 (Sf.E.bin (Sf.BOp.mul) (Sf.E.lst [Sf.E.cbl false]) (Sf.E.bi (Sf.Bi.len) (Sf.E.var 0))), Sf.S.for_ (Sf.T.nm 3) (Sf.E.rng3 (Sf.E.bin (Sf.BOp.sub) (Sf.E.bi (Sf.Bi.len) (Sf.E.var 0)) (Sf.E.cint 1)) (Sf.E.neg (Sf.E.cint 1)) (Sf.E.neg (Sf.E.cint 1))) [Sf.S.asg 4 (Sf.E.call 1 [Sf.E.sub (Sf.E.var 0) (Sf.E.var 3)] []), Sf.S.ite (Sf.E.cmp (Sf.COp.eq) (Sf.E.sub (Sf.E.sub (Sf.E.var 0) (Sf.E.var 3)) (Sf.E.cint 0)) (Sf.E.cstr [116, 101, 108, 108])) [Sf.S.setx 1 (Sf.E.var 3) (Sf.E.cbl true), Sf.S.setx 2 (Sf.E.var 3) (Sf.E.cbl true)] [Sf.S.ite (Sf.E.var 4) [Sf.S.setx 1 (Sf.E.var 3) (Sf.E.anyA false 1 (Sf.E.var 4)), Sf.S.setx 2 (Sf.E.var 3) (Sf.E.anyA true 2 (Sf.E.var 4))] []]], Sf.S.ret (Sf.E.tup [Sf.E.var 1, Sf.E.var 2])] }
def f_follows : Fn := { np := 2, nn := 13, io := none, body := [Sf.S.asgT [2, 3] (Sf.E.call 4 [Sf.E.var 0] []), Sf.S.asgT [4, 5] (Sf.E.call 4 [Sf.E.var 1] []), Sf.S.asg 6 (Sf.E.dic0), Sf.S.asg 7 (Sf.E.lst [Sf.E.tup [Sf.E.cint 0, Sf.E.cint 0]]), Sf.S.whl (Sf.E.var 7) [Sf.S.asg 8 (Sf.E.pop0 7), Sf.S.asgT [9, 10] (Sf.E.var 8), Sf.S.ite (Sf.E.and (Sf.E.cmp (Sf.COp.notin) (Sf.E.var 8) (Sf.E.var 6)) (Sf.E.and (Sf.E.not (Sf.E.sub (Sf.E.var 3) (Sf.E.var 9))) (Sf.E.one (Sf.E.sub (Sf.E.var 4) (Sf.E.var 10))))) [Sf.S.setx 6 (Sf.E.var 8) (Sf.E.cbl true), Sf.S.ite (Sf.E.or (Sf.E.sub (Sf.E.var 5) (Sf.E.var 10)) (Sf.E.one (Sf.E.not (Sf.E.sub (Sf.E.var 2) (Sf.E.var 9))))) [Sf.S.ret (Sf.E.cbl false)] [], Sf.S.for_ (Sf.T.tp [11, 12]) (Sf.E.zip (Sf.E.call 1 [Sf.E.sub (Sf.E.var 0) (Sf.E.var 9)] []) (Sf.E.call 1 [Sf.E.sub (Sf.E.var 1) (Sf.E.var 10)] [])) [Sf.S.app 7 (Sf.E.tup [Sf.E.var 11, Sf.E.var 12])]] []], Sf.S.ret (Sf.E.cbl true)] }
def f_nested : Fn := { np := 1, nn := 2, io := none, body := [Sf.S.for_ (Sf.T.nm 1) (Sf.E.rng1 (Sf.E.bin (Sf.BOp.sub) (Sf.E.bi (Sf.Bi.len) (Sf.E.var 0)) (Sf.E.cint 1))) [Sf.S.ite (Sf.E.not (Sf.E.call 5 [Sf.E.sub (Sf.E.sub (Sf.E.var 0) (Sf.E.var 1)) (Sf.E.cint 2), Sf.E.sub (Sf.E.sub (Sf.E.var 0) (Sf.E.bin (Sf.BOp.add) (Sf.E.var 1) (Sf.E.cint 1))) (Sf.E.cint 2)] [])) [Sf.S.ret (Sf.E.cbl false)] []], Sf.S.ret (Sf.E.cbl true)] }
def f_law_pool : Fn := { np := 1, nn := 1, io := none, body := [Sf.S.ret (Sf.E.bin (Sf.BOp.add) (Sf.E.lst [Sf.E.cint 0, Sf.E.cint 7, Sf.E.cint 3]) (Sf.E.bi (Sf.Bi.list) (Sf.E.var 0)))] }
def f_law_draw : Fn := { np := 2, nn := 5, io := some 0, body := [Sf.S.ite (Sf.E.and (Sf.E.cmp (Sf.COp.eq) (Sf.E.sub (Sf.E.var 0) (Sf.E.cint 0)) (Sf.E.cint 0)) (Sf.E.one (Sf.E.cmp (Sf.COp.lt) (Sf.E.sub (Sf.E.var 0) (Sf.E.cint 2)) (Sf.E.bi (Sf.Bi.len) (Sf.E.var 0))))) [Sf.S.asg 2 (Sf.E.sub (Sf.E.var 0) (Sf.E.sub (Sf.E.var 0) (Sf.E.cint 2))), Sf.S.setx 0 (Sf.E.cint 2) (Sf.E.bin (Sf.BOp.add) (Sf.E.sub (Sf.E.var 0) (Sf.E.cint 2)) (Sf.E.cint 1)), Sf.S.setx 0 (Sf.E.cint 1) (Sf.E.bin (Sf.BOp.mod) (Sf.E.bi (Sf.Bi.int) (Sf.E.bin (Sf.BOp.add) (Sf.E.bin (Sf.BOp.mul) (Sf.E.sub (Sf.E.var 0) (Sf.E.cint 1)) (Sf.E.cint 31)) (Sf.E.var 2))) (Sf.E.cint 2147483647)), Sf.S.ite (Sf.E.cmp (Sf.COp.ge) (Sf.E.bi (Sf.Bi.abs) (Sf.E.var 2)) (Sf.E.bin (Sf.BOp.pow) (Sf.E.cint 10) (Sf.E.cint 18))) [Sf.S.setx 0 (Sf.E.cint 0) (Sf.E.bi (Sf.Bi.abs) (Sf.E.var 2))] []] [], Sf.S.ite (Sf.E.cmp (Sf.COp.gt) (Sf.E.sub (Sf.E.var 0) (Sf.E.cint 0)) (Sf.E.cint 0)) [Sf.S.asg 3 (Sf.E.bin (Sf.BOp.mod) (Sf.E.bi (Sf.Bi.int) (Sf.E.sub (Sf.E.var 0) (Sf.E.cint 0))) (Sf.E.var 1)), Sf.S.setx 0 (Sf.E.cint 0) (Sf.E.bin (Sf.BOp.fdiv) (Sf.E.sub (Sf.E.var 0) (Sf.E.cint 0)) (Sf.E.var 1)), Sf.S.ret (Sf.E.var 3)] [], Sf.S.setx 0 (Sf.E.cint 1) (Sf.E.bin (Sf.BOp.mod) (Sf.E.bi (Sf.Bi.int) (Sf.E.bin (Sf.BOp.add) (Sf.E.bin (Sf.BOp.mul) (Sf.E.sub (Sf.E.var 0) (Sf.E.cint 1)) (Sf.E.cint 48271)) (Sf.E.cint 12345))) (Sf.E.cint 2147483647)), Sf.S.asg 4 (Sf.E.bin (Sf.BOp.mod) (Sf.E.bi (Sf.Bi.int) (Sf.E.bin (Sf.BOp.add) (Sf.E.bin (Sf.BOp.add) (Sf.E.bin (Sf.BOp.mul) (Sf.E.sub (Sf.E.var 0) (Sf.E.cint 1)) (Sf.E.cint 69621)) (Sf.E.bin (Sf.BOp.fdiv) (Sf.E.sub (Sf.E.var 0) (Sf.E.cint 1)) (Sf.E.cint 65536))) (Sf.E.cint 17))) (Sf.E.cint 2147483629)), Sf.S.ret (Sf.E.bin (Sf.BOp.mod) (Sf.E.bi (Sf.Bi.int) (Sf.E.bin (Sf.BOp.fdiv) (Sf.E.var 4) (Sf.E.cint 16))) (Sf.E.var 1))] }
def f_law_pick : Fn := { np := 2, nn := 2, io := some 0, body := [Sf.S.ret (Sf.E.sub (Sf.E.var 1) (Sf.E.call 8 [Sf.E.var 0, Sf.E.bi (Sf.Bi.len) (Sf.E.var 1)] []))] }
def f_law_shuffled : Fn := { np := 2, nn := 4, io := some 0, body := [Sf.S.asg 2 (Sf.E.bi (Sf.Bi.list) (Sf.E.var 1)), Sf.S.ret (Sf.E.comp (Sf.E.pop1 2 (Sf.E.call 8 [Sf.E.var 0, Sf.E.bi (Sf.Bi.len) (Sf.E.var 2)] [])) (Sf.T.nm 3) (Sf.E.rng1 (Sf.E.bi (Sf.Bi.len) (Sf.E.var 2))) [] [3])] }
def f_law_same : Fn := { np := 2, nn := 3, io := none, body := [Sf.S.ite (Sf.E.isi (Sf.E.var 1) (Sf.Ty.tuple)) [Sf.S.ite (Sf.E.or (Sf.E.not (Sf.E.isi (Sf.E.var 0) (Sf.Ty.tuple))) (Sf.E.one (Sf.E.cmp (Sf.COp.ne) (Sf.E.bi (Sf.Bi.len) (Sf.E.var 0)) (Sf.E.bi (Sf.Bi.len) (Sf.E.var 1))))) [Sf.S.ret (Sf.E.cbl false)] [], Sf.S.ret (Sf.E.cmp (Sf.COp.eq) (Sf.E.comp (Sf.E.var 2) (Sf.T.nm 2) (Sf.E.rng1 (Sf.E.bi (Sf.Bi.len) (Sf.E.var 1))) [Sf.E.not (Sf.E.call 11 [Sf.E.sub (Sf.E.var 0) (Sf.E.var 2), Sf.E.sub (Sf.E.var 1) (Sf.E.var 2)] [])] [2]) (Sf.E.lst []))] [], Sf.S.ite (Sf.E.isi (Sf.E.var 1) (Sf.Ty.str)) [Sf.S.ret (Sf.E.and (Sf.E.isi (Sf.E.var 0) (Sf.Ty.str)) (Sf.E.one (Sf.E.cmp (Sf.COp.eq) (Sf.E.var 0) (Sf.E.var 1))))] [], Sf.S.ite (Sf.E.cmp (Sf.COp.is) (Sf.E.var 1) (Sf.E.cnon)) [Sf.S.ret (Sf.E.cmp (Sf.COp.is) (Sf.E.var 0) (Sf.E.cnon))] [], Sf.S.ret (Sf.E.and (Sf.E.isi (Sf.E.var 0) (Sf.Ty.int)) (Sf.E.and (Sf.E.cmp (Sf.COp.eq) (Sf.E.isi (Sf.E.var 0) (Sf.Ty.bool)) (Sf.E.isi (Sf.E.var 1) (Sf.Ty.bool))) (Sf.E.one (Sf.E.cmp (Sf.COp.eq) (Sf.E.var 0) (Sf.E.var 1)))))] }
def f_law_fraction : Fn := { np := 2, nn := 6, io := none, body := [Sf.S.par [2, 3] [Sf.E.bi (Sf.Bi.abs) (Sf.E.var 0), Sf.E.bi (Sf.Bi.abs) (Sf.E.var 1)], Sf.S.for_ (Sf.T.nm 4) (Sf.E.rng1 (Sf.E.cint 4000)) [Sf.S.ite (Sf.E.cmp (Sf.COp.eq) (Sf.E.var 3) (Sf.E.cint 0)) [Sf.S.brk] [], Sf.S.par [2, 3] [Sf.E.var 3, Sf.E.bin (Sf.BOp.mod) (Sf.E.bi (Sf.Bi.int) (Sf.E.var 2)) (Sf.E.var 3)]], Sf.S.asg 5 (Sf.E.ifx (Sf.E.cmp (Sf.COp.gt) (Sf.E.var 1) (Sf.E.cint 0)) (Sf.E.cint 1) (Sf.E.neg (Sf.E.cint 1))), Sf.S.ret (Sf.E.tup [Sf.E.bin (Sf.BOp.fdiv) (Sf.E.bin (Sf.BOp.mul) (Sf.E.var 5) (Sf.E.var 0)) (Sf.E.bi2 (Sf.Bi2.max) (Sf.E.cint 1) (Sf.E.var 2)), Sf.E.bin (Sf.BOp.fdiv) (Sf.E.bi (Sf.Bi.abs) (Sf.E.var 1)) (Sf.E.bi2 (Sf.Bi2.max) (Sf.E.cint 1) (Sf.E.var 2))])] }
def f_law_chance : Fn := { np := 1, nn := 2, io := some 0, body := [Sf.S.asg 1 (Sf.E.bin (Sf.BOp.add) (Sf.E.cint 2) (Sf.E.call 8 [Sf.E.var 0, Sf.E.cint 8] [])), Sf.S.ret (Sf.E.call 12 [Sf.E.bin (Sf.BOp.add) (Sf.E.cint 1) (Sf.E.call 8 [Sf.E.var 0, Sf.E.bin (Sf.BOp.sub) (Sf.E.var 1) (Sf.E.cint 1)] []), Sf.E.var 1] [])] }
def f_law_tree : Fn := { np := 6, nn := 12, io := some 0, body := [Sf.S.asg 6 (Sf.E.call 8 [Sf.E.var 0, Sf.E.cint 9] []), Sf.S.ite (Sf.E.and (Sf.E.cmp (Sf.COp.lt) (Sf.E.var 6) (Sf.E.cint 4)) (Sf.E.and (Sf.E.cmp (Sf.COp.gt) (Sf.E.var 3) (Sf.E.cint 0)) (Sf.E.one (Sf.E.cmp (Sf.COp.gt) (Sf.E.var 5) (Sf.E.cint 0))))) [Sf.S.asg 7 (Sf.E.comp (Sf.E.call 14 [Sf.E.var 0, Sf.E.var 1, Sf.E.var 2, Sf.E.bin (Sf.BOp.sub) (Sf.E.var 3) (Sf.E.cint 1), Sf.E.var 4, Sf.E.bin (Sf.BOp.sub) (Sf.E.var 5) (Sf.E.cint 1)] []) (Sf.T.nm 10) (Sf.E.rng1 (Sf.E.cint 2)) [] [10]), Sf.S.ret (Sf.E.tup [Sf.E.cstr [108, 111, 111, 107], Sf.E.call 8 [Sf.E.var 0, Sf.E.var 1] [], Sf.E.sub (Sf.E.var 7) (Sf.E.cint 0), Sf.E.sub (Sf.E.var 7) (Sf.E.cint 1)])] [], Sf.S.ite (Sf.E.and (Sf.E.cmp (Sf.COp.eq) (Sf.E.var 6) (Sf.E.cint 4)) (Sf.E.and (Sf.E.cmp (Sf.COp.gt) (Sf.E.var 3) (Sf.E.cint 1)) (Sf.E.one (Sf.E.cmp (Sf.COp.gt) (Sf.E.var 5) (Sf.E.cint 0))))) [Sf.S.asg 8 (Sf.E.bin (Sf.BOp.add) (Sf.E.cint 2) (Sf.E.call 8 [Sf.E.var 0, Sf.E.bi2 (Sf.Bi2.min) (Sf.E.cint 2) (Sf.E.bin (Sf.BOp.sub) (Sf.E.var 3) (Sf.E.cint 1))] [])), Sf.S.ret (Sf.E.tup [Sf.E.cstr [98, 108, 111, 99, 107], Sf.E.call 8 [Sf.E.var 0, Sf.E.var 1] [], Sf.E.var 8, Sf.E.bi (Sf.Bi.tuple) (Sf.E.comp (Sf.E.call 14 [Sf.E.var 0, Sf.E.var 1, Sf.E.var 2, Sf.E.bin (Sf.BOp.sub) (Sf.E.var 3) (Sf.E.var 8), Sf.E.var 4, Sf.E.bin (Sf.BOp.sub) (Sf.E.var 5) (Sf.E.cint 2)] []) (Sf.T.nm 10) (Sf.E.rng1 (Sf.E.bin (Sf.BOp.add) (Sf.E.var 8) (Sf.E.cint 1))) [] [10])])] [], Sf.S.ite (Sf.E.and (Sf.E.cmp (Sf.COp.eq) (Sf.E.var 6) (Sf.E.cint 5)) (Sf.E.and (Sf.E.cmp (Sf.COp.gt) (Sf.E.var 4) (Sf.E.cint 0)) (Sf.E.one (Sf.E.cmp (Sf.COp.gt) (Sf.E.var 5) (Sf.E.cint 0))))) [Sf.S.asg 7 (Sf.E.comp (Sf.E.call 14 [Sf.E.var 0, Sf.E.var 1, Sf.E.var 2, Sf.E.var 3, Sf.E.bin (Sf.BOp.sub) (Sf.E.var 4) (Sf.E.cint 1), Sf.E.bin (Sf.BOp.sub) (Sf.E.var 5) (Sf.E.cint 1)] []) (Sf.T.nm 10) (Sf.E.rng1 (Sf.E.cint 2)) [] [10]), Sf.S.ret (Sf.E.tup [Sf.E.cstr [100, 114, 97, 119], Sf.E.call 13 [Sf.E.var 0] [], Sf.E.sub (Sf.E.var 7) (Sf.E.cint 0), Sf.E.sub (Sf.E.var 7) (Sf.E.cint 1)])] [], Sf.S.ite (Sf.E.and (Sf.E.cmp (Sf.COp.lt) (Sf.E.var 6) (Sf.E.cint 8)) (Sf.E.and (Sf.E.cmp (Sf.COp.ne) (Sf.E.var 2) (Sf.E.lst [])) (Sf.E.one (Sf.E.cmp (Sf.COp.gt) (Sf.E.var 5) (Sf.E.neg (Sf.E.cint 2)))))) [Sf.S.asg 9 (Sf.E.call 9 [Sf.E.var 0, Sf.E.var 2] []), Sf.S.ret (Sf.E.tup [Sf.E.cstr [116, 101, 108, 108], Sf.E.var 9, Sf.E.call 14 [Sf.E.var 0, Sf.E.var 1, Sf.E.comp (Sf.E.var 11) (Sf.T.nm 11) (Sf.E.var 2) [Sf.E.cmp (Sf.COp.ne) (Sf.E.var 11) (Sf.E.var 9)] [11], Sf.E.var 3, Sf.E.var 4, Sf.E.var 5] []])] [], Sf.S.ret (Sf.E.tup [Sf.E.cstr [101, 110, 100]])] }
def f_law_nodes : Fn := { np := 2, nn := 4, io := some 1, body := [Sf.S.asg 2 (Sf.E.bi (Sf.Bi.len) (Sf.E.var 1)), Sf.S.app 1 (Sf.E.cnon), Sf.S.ite (Sf.E.cmp (Sf.COp.eq) (Sf.E.sub (Sf.E.var 0) (Sf.E.cint 0)) (Sf.E.cstr [108, 111, 111, 107])) [Sf.S.setx 1 (Sf.E.var 2) (Sf.E.bin (Sf.BOp.add) (Sf.E.slc (Sf.E.var 0) none (some (Sf.E.cint 2))) (Sf.E.bi (Sf.Bi.tuple) (Sf.E.comp (Sf.E.call 15 [Sf.E.var 3, Sf.E.var 1] []) (Sf.T.nm 3) (Sf.E.slc (Sf.E.var 0) (some (Sf.E.cint 2)) none) [] [3])))] [Sf.S.ite (Sf.E.cmp (Sf.COp.eq) (Sf.E.sub (Sf.E.var 0) (Sf.E.cint 0)) (Sf.E.cstr [98, 108, 111, 99, 107])) [Sf.S.setx 1 (Sf.E.var 2) (Sf.E.bin (Sf.BOp.add) (Sf.E.slc (Sf.E.var 0) none (some (Sf.E.cint 3))) (Sf.E.tup [Sf.E.bi (Sf.Bi.tuple) (Sf.E.comp (Sf.E.call 15 [Sf.E.var 3, Sf.E.var 1] []) (Sf.T.nm 3) (Sf.E.sub (Sf.E.var 0) (Sf.E.cint 3)) [] [3])]))] [Sf.S.ite (Sf.E.cmp (Sf.COp.eq) (Sf.E.sub (Sf.E.var 0) (Sf.E.cint 0)) (Sf.E.cstr [100, 114, 97, 119])) [Sf.S.setx 1 (Sf.E.var 2) (Sf.E.bin (Sf.BOp.add) (Sf.E.slc (Sf.E.var 0) none (some (Sf.E.cint 2))) (Sf.E.bi (Sf.Bi.tuple) (Sf.E.comp (Sf.E.call 15 [Sf.E.var 3, Sf.E.var 1] []) (Sf.T.nm 3) (Sf.E.slc (Sf.E.var 0) (some (Sf.E.cint 2)) none) [] [3])))] [Sf.S.ite (Sf.E.cmp (Sf.COp.eq) (Sf.E.sub (Sf.E.var 0) (Sf.E.cint 0)) (Sf.E.cstr [116, 101, 108, 108])) [Sf.S.setx 1 (Sf.E.var 2) (Sf.E.bin (Sf.BOp.add) (Sf.E.slc (Sf.E.var 0) none (some (Sf.E.cint 2))) (Sf.E.tup [Sf.E.call 15 [Sf.E.sub (Sf.E.var 0) (Sf.E.cint 2), Sf.E.var 1] []]))] [Sf.S.setx 1 (Sf.E.var 2) (Sf.E.var 0)]]]], Sf.S.ret (Sf.E.var 2)] }
def f_law_plan : Fn := { np := 3, nn := 4, io := none, body := [Sf.S.asg 3 (Sf.E.lst []), Sf.S.expr (Sf.E.call 15 [Sf.E.var 2, Sf.E.var 3] []), Sf.S.ret (Sf.E.tup [Sf.E.var 0, Sf.E.var 1, Sf.E.bi (Sf.Bi.tuple) (Sf.E.var 3)])] }
def f_law_names : Fn := { np := 2, nn := 5, io := some 0, body := [Sf.S.asg 2 (Sf.E.lst []), Sf.S.for_ (Sf.T.nm 3) (Sf.E.rng1 (Sf.E.var 1)) [Sf.S.asg 4 (Sf.E.call 9 [Sf.E.var 0, Sf.E.lst [Sf.E.cstr [97], Sf.E.cstr [98], Sf.E.cstr [110, 101, 119], Sf.E.cstr [111, 108, 100], Sf.E.cstr [99, 49], Sf.E.cstr [48], Sf.E.cstr [108, 111, 111, 107], Sf.E.cstr [101, 110, 100], Sf.E.cstr [97, 98, 99, 100, 101, 102, 103, 104], Sf.E.cstr [120], Sf.E.cstr [97, 114, 109, 115], Sf.E.cstr [116, 101, 108, 108]]] []), Sf.S.app 2 (Sf.E.ifx (Sf.E.cmp (Sf.COp.isin) (Sf.E.var 4) (Sf.E.var 2)) (Sf.E.bin (Sf.BOp.add) (Sf.E.bin (Sf.BOp.add) (Sf.E.slc (Sf.E.var 4) none (some (Sf.E.cint 4))) (Sf.E.cstr [113])) (Sf.E.bi (Sf.Bi.str) (Sf.E.var 3))) (Sf.E.var 4))], Sf.S.ret (Sf.E.bi (Sf.Bi.tuple) (Sf.E.var 2))] }
def f_law_bare : Fn := { np := 4, nn := 4, io := some 0, body := [Sf.S.ret (Sf.E.call 14 [Sf.E.var 0, Sf.E.var 1, Sf.E.lst [], Sf.E.var 2, Sf.E.cint 2, Sf.E.var 3] [])] }
def f_law_ends : Fn := { np := 2, nn := 5, io := none, body := [Sf.S.ite (Sf.E.cmp (Sf.COp.eq) (Sf.E.sub (Sf.E.var 0) (Sf.E.cint 0)) (Sf.E.cstr [101, 110, 100])) [Sf.S.ret (Sf.E.lst [Sf.E.var 1])] [], Sf.S.asg 2 (Sf.E.ifx (Sf.E.cmp (Sf.COp.eq) (Sf.E.sub (Sf.E.var 0) (Sf.E.cint 0)) (Sf.E.cstr [98, 108, 111, 99, 107])) (Sf.E.sub (Sf.E.var 0) (Sf.E.cint 3)) (Sf.E.slc (Sf.E.var 0) (some (Sf.E.cint 2)) none)), Sf.S.asg 3 (Sf.E.lst []), Sf.S.for_ (Sf.T.nm 4) (Sf.E.rng1 (Sf.E.bi (Sf.Bi.len) (Sf.E.var 2))) [Sf.S.asg 3 (Sf.E.bin (Sf.BOp.add) (Sf.E.var 3) (Sf.E.call 19 [Sf.E.sub (Sf.E.var 2) (Sf.E.var 4), Sf.E.bin (Sf.BOp.add) (Sf.E.var 1) (Sf.E.tup [Sf.E.var 4])] []))], Sf.S.ret (Sf.E.var 3)] }
def f_law_with_tells : Fn := { np := 3, nn := 10, io := some 0, body := [Sf.S.asg 3 (Sf.E.bi (Sf.Bi.len) (Sf.E.call 19 [Sf.E.var 1, Sf.E.tup []] [])), Sf.S.par [4, 5] [Sf.E.slc (Sf.E.var 2) none (some (Sf.E.var 3)), Sf.E.slc (Sf.E.var 2) (some (Sf.E.var 3)) none], Sf.S.ite (Sf.E.and (Sf.E.cmp (Sf.COp.notin) (Sf.E.cbl false) (Sf.E.var 4)) (Sf.E.one (Sf.E.or (Sf.E.cmp (Sf.COp.eq) (Sf.E.sub (Sf.E.var 1) (Sf.E.cint 0)) (Sf.E.cstr [101, 110, 100])) (Sf.E.one (Sf.E.cmp (Sf.COp.eq) (Sf.E.call 8 [Sf.E.var 0, Sf.E.cint 2] []) (Sf.E.cint 0)))))) [Sf.S.ret (Sf.E.tup [Sf.E.tup [Sf.E.cstr [116, 101, 108, 108], Sf.E.cint 0, Sf.E.var 1], Sf.E.var 5])] [], Sf.S.ite (Sf.E.cmp (Sf.COp.eq) (Sf.E.sub (Sf.E.var 1) (Sf.E.cint 0)) (Sf.E.cstr [101, 110, 100])) [Sf.S.ret (Sf.E.tup [Sf.E.var 1, Sf.E.var 5])] [], Sf.S.par [6, 7] [Sf.E.ifx (Sf.E.cmp (Sf.COp.eq) (Sf.E.sub (Sf.E.var 1) (Sf.E.cint 0)) (Sf.E.cstr [98, 108, 111, 99, 107])) (Sf.E.sub (Sf.E.var 1) (Sf.E.cint 3)) (Sf.E.slc (Sf.E.var 1) (some (Sf.E.cint 2)) none), Sf.E.lst []], Sf.S.for_ (Sf.T.nm 8) (Sf.E.var 6) [Sf.S.asgT [9, 4] (Sf.E.call 20 [Sf.E.var 0, Sf.E.var 8, Sf.E.var 4] []), Sf.S.app 7 (Sf.E.var 9)], Sf.S.ret (Sf.E.tup [Sf.E.ifx (Sf.E.cmp (Sf.COp.eq) (Sf.E.sub (Sf.E.var 1) (Sf.E.cint 0)) (Sf.E.cstr [98, 108, 111, 99, 107])) (Sf.E.bin (Sf.BOp.add) (Sf.E.slc (Sf.E.var 1) none (some (Sf.E.cint 3))) (Sf.E.tup [Sf.E.bi (Sf.Bi.tuple) (Sf.E.var 7)])) (Sf.E.bin (Sf.BOp.add) (Sf.E.slc (Sf.E.var 1) none (some (Sf.E.cint 2))) (Sf.E.bi (Sf.Bi.tuple) (Sf.E.var 7))), Sf.E.var 5])] }
def f_law_marks : Fn := { np := 2, nn := 5, io := some 0, body := [Sf.S.asg 2 (Sf.E.bin (Sf.BOp.add) (Sf.E.var 1) (Sf.E.call 8 [Sf.E.var 0, Sf.E.cint 30] [])), Sf.S.asg 3 (Sf.E.bi (Sf.Bi.sorted) (Sf.E.slc (Sf.E.call 10 [Sf.E.var 0, Sf.E.lrng (Sf.E.bin (Sf.BOp.add) (Sf.E.var 2) (Sf.E.cint 1))] []) none (some (Sf.E.var 1)))), Sf.S.ret (Sf.E.bi (Sf.Bi.tuple) (Sf.E.comp (Sf.E.call 12 [Sf.E.var 4, Sf.E.var 2] []) (Sf.T.nm 4) (Sf.E.var 3) [] [4]))] }
def f_law : Fn := { np := 1, nn := 24, io := none, body := [Sf.S.asg 1 (Sf.E.call 7 [Sf.E.var 0] []), Sf.S.for_ (Sf.T.nm 2) (Sf.E.rng1 (Sf.E.cint 4)) [Sf.S.par [3, 4] [Sf.E.bin (Sf.BOp.add) (Sf.E.cint 1) (Sf.E.call 8 [Sf.E.var 1, Sf.E.cint 3] []), Sf.E.ifx (Sf.E.cmp (Sf.COp.eq) (Sf.E.call 8 [Sf.E.var 1, Sf.E.cint 16] []) (Sf.E.cint 0)) (Sf.E.cint 40) (Sf.E.bin (Sf.BOp.add) (Sf.E.cint 1) (Sf.E.call 8 [Sf.E.var 1, Sf.E.cint 6] []))], Sf.S.asg 5 (Sf.E.call 18 [Sf.E.var 1, Sf.E.var 3, Sf.E.cint 5, Sf.E.cint 5] []), Sf.S.par [6, 7] [Sf.E.call 19 [Sf.E.var 5, Sf.E.tup []] [], Sf.E.tup [Sf.E.call 17 [Sf.E.var 1, Sf.E.var 3] [], Sf.E.call 17 [Sf.E.var 1, Sf.E.cint 1] []]], Sf.S.par [8, 9, 10] [Sf.E.call 8 [Sf.E.var 1, Sf.E.cint 4] [], Sf.E.lst [], Sf.E.lst []], Sf.S.asg 11 (Sf.E.comp (Sf.E.call 8 [Sf.E.var 1, Sf.E.bin (Sf.BOp.add) (Sf.E.var 4) (Sf.E.cint 1)] []) (Sf.T.nm 23) (Sf.E.var 6) [] [23]), Sf.S.par [12, 13] [Sf.E.call 8 [Sf.E.var 1, Sf.E.bi (Sf.Bi.len) (Sf.E.var 6)] [], Sf.E.call 8 [Sf.E.var 1, Sf.E.var 4] []], Sf.S.for_ (Sf.T.nm 14) (Sf.E.rng1 (Sf.E.var 4)) [Sf.S.asg 15 (Sf.E.comp (Sf.E.ifx (Sf.E.cmp (Sf.COp.lt) (Sf.E.var 8) (Sf.E.cint 3)) (Sf.E.cmp (Sf.COp.gt) (Sf.E.sub (Sf.E.var 11) (Sf.E.var 20)) (Sf.E.var 14)) (Sf.E.cmp (Sf.COp.eq) (Sf.E.call 8 [Sf.E.var 1, Sf.E.cint 2] []) (Sf.E.cint 0))) (Sf.T.nm 20) (Sf.E.rng1 (Sf.E.bi (Sf.Bi.len) (Sf.E.var 6))) [] [20]), Sf.S.ite (Sf.E.and (Sf.E.cmp (Sf.COp.eq) (Sf.E.var 8) (Sf.E.cint 2)) (Sf.E.one (Sf.E.cmp (Sf.COp.eq) (Sf.E.var 14) (Sf.E.var 13)))) [Sf.S.setx 15 (Sf.E.var 12) (Sf.E.not (Sf.E.sub (Sf.E.var 15) (Sf.E.var 12)))] [], Sf.S.asgT [16, 17] (Sf.E.call 20 [Sf.E.var 1, Sf.E.var 5, Sf.E.var 15] []), Sf.S.app 9 (Sf.E.call 16 [Sf.E.sub (Sf.E.var 7) (Sf.E.cint 0), Sf.E.sub (Sf.E.var 7) (Sf.E.cint 1), Sf.E.var 16] []), Sf.S.app 10 (Sf.E.var 15)], Sf.S.par [18, 19] [Sf.E.call 21 [Sf.E.var 1, Sf.E.var 4] [], Sf.E.cbl true], Sf.S.for_ (Sf.T.nm 20) (Sf.E.rng1 (Sf.E.bi (Sf.Bi.len) (Sf.E.var 6))) [Sf.S.asg 21 (Sf.E.comp (Sf.E.sub (Sf.E.var 15) (Sf.E.var 20)) (Sf.T.nm 15) (Sf.E.var 10) [] [15]), Sf.S.asg 22 (Sf.E.ifx (Sf.E.cmp (Sf.COp.isin) (Sf.E.cbl false) (Sf.E.var 21)) (Sf.E.bin (Sf.BOp.sub) (Sf.E.index (Sf.E.var 21) (Sf.E.cbl false)) (Sf.E.cint 1)) (Sf.E.bin (Sf.BOp.sub) (Sf.E.var 4) (Sf.E.cint 1))), Sf.S.asg 19 (Sf.E.and (Sf.E.var 19) (Sf.E.one (Sf.E.cmp (Sf.COp.notin) (Sf.E.cbl true) (Sf.E.slc (Sf.E.var 21) (some (Sf.E.bin (Sf.BOp.add) (Sf.E.var 22) (Sf.E.cint 1))) none)))), Sf.S.ite (Sf.E.not (Sf.E.call 11 [Sf.E.call 3 [Sf.E.bi (Sf.Bi.tuple) (Sf.E.var 9), Sf.E.var 18, Sf.E.sub (Sf.E.var 6) (Sf.E.var 20)] [], Sf.E.var 22] [])) [Sf.S.ret (Sf.E.cbl false)] []], Sf.S.ite (Sf.E.not (Sf.E.call 11 [Sf.E.call 3 [Sf.E.bi (Sf.Bi.tuple) (Sf.E.var 9), Sf.E.var 18, Sf.E.sub (Sf.E.var 6) (Sf.E.neg (Sf.E.cint 1))] [], Sf.E.var 22] [])) [Sf.S.ret (Sf.E.cbl false)] [], Sf.S.ite (Sf.E.or (Sf.E.not (Sf.E.call 11 [Sf.E.call 6 [Sf.E.bi (Sf.Bi.tuple) (Sf.E.var 9)] [], Sf.E.var 19] [])) (Sf.E.one (Sf.E.not (Sf.E.call 11 [Sf.E.call 6 [Sf.E.bi (Sf.Bi.tuple) (Sf.E.var 9)] [], Sf.E.var 19] [])))) [Sf.S.ret (Sf.E.cbl false)] []], Sf.S.ret (Sf.E.cbl true)] }
def tab : List Fn := [f_is_number, f_nexts_of, f_walk, f_lower, f_hopes, f_follows, f_nested, f_law_pool, f_law_draw, f_law_pick, f_law_shuffled, f_law_same, f_law_fraction, f_law_chance, f_law_tree, f_law_nodes, f_law_plan, f_law_names, f_law_bare, f_law_ends, f_law_with_tells, f_law_marks, f_law]
end K84
end
section
set_option maxRecDepth 100000
set_option linter.all false
/-! K84M1: the pool. -/
namespace K84
open Sf
theorem mul_ok {i j : Int} (h : -(2 ^ 64) < i) (h2 : i < 2 ^ 64) : mulOk i j = true := by
  unfold mulOk
  rw [decide_eq_true h, decide_eq_true h2]
  rfl
theorem div_ok {j : Int} (h : 0 < j) (h2 : j < 2 ^ 64) : divOk j = true := by
  unfold divOk
  rw [decide_eq_true h]
  have h3 : j.natAbs.log2 < 64 := by
    rw [Nat.log2_lt (by omega)]
    omega
  rw [decide_eq_true (show j.natAbs.log2 < 9000 by omega)]
  rfl
theorem pow_1018 : binop .pow (.int 10) (.int 18) = some (.int 1000000000000000000) := rfl
/-- something is left over in the pool's first cell -/
theorem draw_b (k : Nat) (a b c m : Int) (rest : List D) (ha : 0 < a) (hm : 0 < m) (hd : divOk m = true) : callN tab (k + 1) 8 [.lst true (.int a :: .int b :: .int c :: rest), .int m] = .ok (.int (a % m)) [some (.lst true (.int (a / m) :: .int b :: .int c :: rest)), none] := by
  show runF (sigOf tab) (callN tab k) f_law_draw _ = _
  have h1 : (a == 0) = false := by simp; omega
  simp [runF, f_law_draw, exs, ex, ev3, Md.mk', Md.z, Md.p, peek, putE, has, hasL, E.slot?, E.simple, varV, finE, h1, ha, hm, hd, List.range, List.range.loop]
def mixA (b : Int) : Int := (b * 48271 + 12345) % 2147483647
def mixB (b : Int) : Int := (b * 69621 + b / 65536 + 17) % 2147483629 / 16
theorem draw_c (k : Nat) (b c m : Int) (rest : List D) (hc : (rest.length : Int) + 3 ≤ c) (hb : 0 ≤ b) (hb2 : b < 2147483648) (hm : 0 < m) : callN tab (k + 1) 8 [.lst true (.int 0 :: .int b :: .int c :: rest), .int m] =
    .ok (.int (mixB (mixA b) % m)) [some (.lst true (.int 0 :: .int (mixA b) :: .int c :: rest)), none] := by
  show runF (sigOf tab) (callN tab k) f_law_draw _ = _
  have h1 : ¬ c < (rest.length : Int) + 1 + 1 + 1 := by omega
  have h2 : mulOk b 48271 = true := mul_ok (by omega) (by omega)
  have h3 : mulOk ((b * 48271 + 12345) % 2147483647) 69621 = true := mul_ok (by omega) (by omega)
  have h4 : divOk 65536 = true := div_ok (by omega) (by omega)
  have h5 : divOk 16 = true := div_ok (by omega) (by omega)
  simp [runF, f_law_draw, exs, ex, ev3, Md.mk', Md.z, Md.p, peek, putE, has, hasL, E.slot?, E.simple, varV, finE, h1, h2, h3, h4, h5, hm, List.range, List.range.loop, mixA, mixB]
/-- a cell of the script is taken, a great one -/
theorem draw_d (k : Nat) (b c m x : Int) (rest : List D) (hc : c < (rest.length : Int) + 3) (hx : atq (.int 0 :: .int b :: .int c :: rest) c = some (.int x)) (hg : 1000000000000000000 ≤ (if x < 0 then -x else x)) (hb : 0 ≤ b) (hb2 : b < 2147483648) (hm : 0 < m) (hd : divOk m = true) :
    callN tab (k + 1) 8 [.lst true (.int 0 :: .int b :: .int c :: rest), .int m] = .ok (.int ((if x < 0 then -x else x) % m)) [some (.lst true (.int ((if x < 0 then -x else x) / m) :: .int ((b * 31 + x) % 2147483647) :: .int (c + 1) :: rest)), none] := by
  show runF (sigOf tab) (callN tab k) f_law_draw _ = _
  have h1 : c < (rest.length : Int) + 1 + 1 + 1 := by omega
  have h2 : mulOk b 31 = true := mul_ok (by omega) (by omega)
  have h3 : 0 < (if x < 0 then -x else x) := by omega
  simp [runF, f_law_draw, exs, ex, ev3, Md.mk', Md.z, Md.p, peek, putE, has, hasL, E.slot?, E.simple, varV, finE, h1, h2, h3, hx, hg, hm, hd, pow_1018, List.range, List.range.loop]
theorem draw_e (k : Nat) (b c m x : Int) (rest : List D) (hc : c < (rest.length : Int) + 3) (hx : atq (.int 0 :: .int b :: .int c :: rest) c = some (.int x)) (hg : ¬ 1000000000000000000 ≤ (if x < 0 then -x else x)) (hb : 0 ≤ b) (hb2 : b < 2147483648) (hm : 0 < m) :
    callN tab (k + 1) 8 [.lst true (.int 0 :: .int b :: .int c :: rest), .int m] = .ok (.int (mixB (mixA ((b * 31 + x) % 2147483647)) % m)) [some (.lst true (.int 0 :: .int (mixA ((b * 31 + x) % 2147483647)) :: .int (c + 1) :: rest)), none] := by
  show runF (sigOf tab) (callN tab k) f_law_draw _ = _
  have h1 : c < (rest.length : Int) + 1 + 1 + 1 := by omega
  have h0 : mulOk b 31 = true := mul_ok (by omega) (by omega)
  have h2 : mulOk ((b * 31 + x) % 2147483647) 48271 = true := mul_ok (by omega) (by omega)
  have h3 : mulOk (((b * 31 + x) % 2147483647 * 48271 + 12345) % 2147483647) 69621 = true := mul_ok (by omega) (by omega)
  have h4 : divOk 65536 = true := div_ok (by omega) (by omega)
  have h5 : divOk 16 = true := div_ok (by omega) (by omega)
  simp [runF, f_law_draw, exs, ex, ev3, Md.mk', Md.z, Md.p, peek, putE, has, hasL, E.slot?, E.simple, varV, finE, h0, h1, h2, h3, h4, h5, hx, hg, hm, pow_1018, List.range, List.range.loop, mixA, mixB]
/-- a pool -/
def Pl (p : List D) : Prop := ∃ (a b c : Int) (rest : List Int), p = .int a :: .int b :: .int c :: rest.map .int ∧ 0 ≤ a ∧ 0 ≤ b ∧ b < 2147483648 ∧ 3 ≤ c
theorem mixA_rng (b : Int) : 0 ≤ mixA b ∧ mixA b < 2147483648 := by unfold mixA; omega
theorem mod_rng (x : Int) {m : Int} (h : 0 < m) : 0 ≤ x % m ∧ x % m < m := ⟨Int.emod_nonneg _ (by omega), Int.emod_lt_of_pos _ h⟩
theorem draw (k : Nat) {p : List D} (hp : Pl p) {m : Int} (hm : 0 < m) (hm2 : m < 2 ^ 64) : ∃ v p', callN tab (k + 1) 8 [.lst true p, .int m] = .ok (.int v) [some (.lst true p'), none] ∧ 0 ≤ v ∧ v < m ∧ Pl p' := by
  obtain ⟨a, b, c, rest, rfl, ha, hb, hb2, hc⟩ := hp
  have hd := div_ok hm hm2
  by_cases h0 : 0 < a
  · exact ⟨_, _, draw_b k a b c m _ h0 hm hd, (mod_rng a hm).1, (mod_rng a hm).2, _, b, c, rest, rfl, Int.ediv_nonneg ha (by omega), hb, hb2, hc⟩
  · have e : a = 0 := by omega
    subst e
    by_cases hcl : c < (rest.length : Int) + 3
    · have hcn : ∃ x, atq (D.int 0 :: .int b :: .int c :: rest.map .int) c = some (.int x) := by
        obtain ⟨j, rfl⟩ : ∃ j : Nat, c = ((j + 1 + 1 + 1 : Nat) : Int) := ⟨c.toNat - 3, by omega⟩
        have hl : j < rest.length := by omega
        refine ⟨rest[j], ?_⟩
        rw [atq_nat]
        simp [hl]
      obtain ⟨x, hx⟩ := hcn
      have hl : ((rest.map D.int).length : Int) = rest.length := by rw [List.length_map]
      by_cases hg : 1000000000000000000 ≤ (if x < 0 then -x else x)
      · refine ⟨_, _, draw_d k b c m x _ (by rw [hl]; exact hcl) hx hg hb hb2 hm hd, (mod_rng _ hm).1, (mod_rng _ hm).2, _, _, _, rest, rfl, Int.ediv_nonneg (by omega) (by omega), ?_, ?_, by omega⟩ <;> omega
      · refine ⟨_, _, draw_e k b c m x _ (by rw [hl]; exact hcl) hx hg hb hb2 hm, (mod_rng _ hm).1, (mod_rng _ hm).2, _, _, _, rest, rfl, by omega, (mixA_rng _).1, (mixA_rng _).2, by omega⟩
    · have hl : ((rest.map D.int).length : Int) = rest.length := by rw [List.length_map]
      exact ⟨_, _, draw_c k b c m _ (by rw [hl]; omega) hb hb2 hm, (mod_rng _ hm).1, (mod_rng _ hm).2, _, _, _, rest, rfl, by omega, (mixA_rng _).1, (mixA_rng _).2, hc⟩
end K84
end
section
set_option maxRecDepth 100000
set_option linter.all false
/-! K84M2: small defs. -/
namespace K84
open Sf
theorem pool_run (k : Nat) (ns : List Int) (h : ns.length ≤ 63) : ∃ p, callN tab (k + 1) 7 [.scr (ns.map .int)] = .ok (.lst true p) [none] ∧ Pl p := by
  refine ⟨.int 0 :: .int 7 :: .int 3 :: ns.map .int, ?_, 0, 7, 3, ns, rfl, by omega, by omega, by omega, by omega⟩
  show runF (sigOf tab) (callN tab k) f_law_pool _ = _
  have h1 : 3 + ns.length ≤ 16777216 := by omega
  simp [runF, f_law_pool, exs, ex, ev3, ev3s, evz, Md.mk', Md.z, Md.p, peek, putE, has, hasL, E.slot?, E.simple, varV, finE, SZ, h1, List.range, List.range.loop]
theorem same_int (k : Nat) (i : Int) : callN tab (k + 1) 11 [.int i, .int i] = .ok (.bl true) [none, none] := by
  show runF (sigOf tab) (callN tab k) f_law_same _ = _
  simp [runF, f_law_same, exs, ex, ev3, ev3s, evz, Md.mk', Md.z, Md.p, peek, putE, has, hasL, E.slot?, E.simple, varV, finE, isiq, cmpop, D.eqOk, D.scal, D.flat, D.eqv, List.range, List.range.loop]
theorem same_bl (k : Nat) (i : Bool) : callN tab (k + 1) 11 [.bl i, .bl i] = .ok (.bl true) [none, none] := by
  show runF (sigOf tab) (callN tab k) f_law_same _ = _
  simp [runF, f_law_same, exs, ex, ev3, ev3s, evz, Md.mk', Md.z, Md.p, peek, putE, has, hasL, E.slot?, E.simple, varV, finE, isiq, cmpop, D.eqOk, D.scal, D.flat, D.eqv, List.range, List.range.loop]
theorem isnum_run (k : Nat) (i : Int) : callN tab (k + 1) 0 [.int i] = .ok (.bl true) [none] := by
  show runF (sigOf tab) (callN tab k) f_is_number _ = _
  simp [runF, f_is_number, exs, ex, ev3, ev3s, evz, Md.mk', Md.z, Md.p, peek, putE, has, hasL, E.slot?, E.simple, varV, finE, isiq, List.range, List.range.loop]
end K84
end
section
set_option maxRecDepth 100000
set_option linter.all false
/-! K84M3: fractions. -/
namespace K84
open Sf
def fr_for : S := Sf.S.for_ (Sf.T.nm 4) (Sf.E.rng1 (Sf.E.cint 4000)) [Sf.S.ite (Sf.E.cmp (Sf.COp.eq) (Sf.E.var 3) (Sf.E.cint 0)) [Sf.S.brk] [], Sf.S.par [2, 3] [Sf.E.var 3, Sf.E.bin (Sf.BOp.mod) (Sf.E.bi (Sf.Bi.int) (Sf.E.var 2)) (Sf.E.var 3)]]
theorem fr_is : f_law_fraction = { np := 2, nn := 6, io := none, body := [Sf.S.par [2, 3] [Sf.E.bi (Sf.Bi.abs) (Sf.E.var 0), Sf.E.bi (Sf.Bi.abs) (Sf.E.var 1)], fr_for, Sf.S.asg 5 (Sf.E.ifx (Sf.E.cmp (Sf.COp.gt) (Sf.E.var 1) (Sf.E.cint 0)) (Sf.E.cint 1) (Sf.E.neg (Sf.E.cint 1))), Sf.S.ret (Sf.E.tup [Sf.E.bin (Sf.BOp.fdiv) (Sf.E.bin (Sf.BOp.mul) (Sf.E.var 5) (Sf.E.var 0)) (Sf.E.bi2 (Sf.Bi2.max) (Sf.E.cint 1) (Sf.E.var 2)), Sf.E.bin (Sf.BOp.fdiv) (Sf.E.bi (Sf.Bi.abs) (Sf.E.var 1)) (Sf.E.bi2 (Sf.Bi2.max) (Sf.E.cint 1) (Sf.E.var 2))])] } := rfl
theorem rng_ints (lo : Int) (n : Nat) : ∀ x ∈ rngq lo 1 n, ∃ i : Int, x = .int i := by
  intro x hx
  unfold rngq at hx
  obtain ⟨j, _, rfl⟩ := List.mem_map.mp hx
  exact ⟨_, rfl⟩
theorem fr_loop (sg : Sig) (C : Calls) (a b one other : Int) (h1 : 0 ≤ one) (h2 : one < 2 ^ 60) (h3 : 0 ≤ other) (h4 : other < 2 ^ 60) : ∃ (o p : Int) (q : Option D), 0 ≤ o ∧ o < 2 ^ 60 ∧ ex sg C fr_for [some (.int a), some (.int b), some (.int one), some (.int other), none, none] = .nx [some (.int a), some (.int b), some (.int o), some (.int p), q, none] := by
  have e : ∀ r : Env, (ev3 sg C (.rng1 (.cint 4000))).i r = .ok (rngq 0 1 4000) r := fun r => rfl
  have key := forL_inv (f := fun x r => match bindT r (.nm 4) x with
      | some r => exs sg C [Sf.S.ite (Sf.E.cmp (Sf.COp.eq) (Sf.E.var 3) (Sf.E.cint 0)) [Sf.S.brk] [], Sf.S.par [2, 3] [Sf.E.var 3, Sf.E.bin (Sf.BOp.mod) (Sf.E.bi (Sf.Bi.int) (Sf.E.var 2)) (Sf.E.var 3)]] r
      | none => .bad)
    (P := fun xs r => ∃ (o p : Int) (q : Option D), 0 ≤ o ∧ o < 2 ^ 60 ∧ 0 ≤ p ∧ p < 2 ^ 60 ∧ r = [some (.int a), some (.int b), some (.int o), some (.int p), q, none])
    (Q := fun res => ∃ (o p : Int) (q : Option D), 0 ≤ o ∧ o < 2 ^ 60 ∧ res = .nx [some (.int a), some (.int b), some (.int o), some (.int p), q, none])
    (fun x xs r ⟨o, p, q, h1, h2, h3, h4, hr⟩ => by
      subst hr
      by_cases hp : p = 0
      · subst hp
        refine .inr (.inl ⟨[some (.int a), some (.int b), some (.int o), some (.int 0), some x, none], ?_, o, 0, _, h1, h2, rfl⟩)
        simp [bindT, putE, exs, ex, ev3, Md.mk', Md.z, Md.p, E.simple, E.slot?, peek]
      · have h5 : (p == 0) = false := by simpa using hp
        have h6 : 0 < p := by omega
        refine .inl ⟨[some (.int a), some (.int b), some (.int p), some (.int (o % p)), some x, none], .inl ?_, p, o % p, _, h3, h4, (mod_rng o h6).1, by have := (mod_rng o h6).2; omega, rfl⟩
        simp [bindT, putE, exs, ex, ev3, ev3s, evs, Md.mk', Md.z, Md.p, E.simple, E.slot?, peek, varV, putsE, h5, h6])
    (fun r ⟨o, p, q, h1, h2, h3, h4, hr⟩ => ⟨o, p, q, h1, h2, by rw [hr]⟩)
    (rngq 0 1 4000) [some (.int a), some (.int b), some (.int one), some (.int other), none, none] ⟨one, other, none, h1, h2, h3, h4, rfl⟩
  exact key
theorem fraction (k : Nat) (a b : Int) (ha : 0 ≤ a) (ha2 : a < 2 ^ 60) (hb : 0 < b) (hb2 : b < 2 ^ 60) : ∃ x y, callN tab (k + 1) 12 [.int a, .int b] = .ok (.tup [.int x, .int y]) [none, none] := by
  have h0 : ¬ a < 0 := by omega
  have h1 : ¬ b < 0 := by omega
  obtain ⟨o, p, q, h2, h3, h4⟩ := fr_loop (sigOf tab) (callN tab k) a b a b ha ha2 (by omega) hb2
  have h5 : mulOk 1 a = true := mul_ok (by omega) (by omega)
  have h6 : divOk (if o > 1 then o else 1) = true := div_ok (by omega) (by omega)
  refine ⟨a / (if o > 1 then o else 1), b / (if o > 1 then o else 1), ?_⟩
  show runF (sigOf tab) (callN tab k) f_law_fraction _ = _
  simp [fr_is, runF, exs, ex, ev3, ev3s, evs, evz, Md.mk', Md.z, Md.p, peek, putE, putsE, has, hasL, E.slot?, E.simple, varV, finE, bltg, SZ, h0, h1, h4, hb, h5, h6, List.range, List.range.loop]
end K84
end
section
set_option maxRecDepth 100000
set_option linter.all false
/-! K84M4: chances, shuffles. -/
namespace K84
open Sf
@[simp] theorem sig_0 : sigOf tab 0 = none := rfl
@[simp] theorem sig_1 : sigOf tab 1 = none := rfl
@[simp] theorem sig_2 : sigOf tab 2 = none := rfl
@[simp] theorem sig_3 : sigOf tab 3 = none := rfl
@[simp] theorem sig_4 : sigOf tab 4 = none := rfl
@[simp] theorem sig_5 : sigOf tab 5 = none := rfl
@[simp] theorem sig_6 : sigOf tab 6 = none := rfl
@[simp] theorem sig_7 : sigOf tab 7 = none := rfl
@[simp] theorem sig_8 : sigOf tab 8 = some 0 := rfl
@[simp] theorem sig_9 : sigOf tab 9 = some 0 := rfl
@[simp] theorem sig_10 : sigOf tab 10 = some 0 := rfl
@[simp] theorem sig_11 : sigOf tab 11 = none := rfl
@[simp] theorem sig_12 : sigOf tab 12 = none := rfl
@[simp] theorem sig_13 : sigOf tab 13 = some 0 := rfl
@[simp] theorem sig_14 : sigOf tab 14 = some 0 := rfl
@[simp] theorem sig_15 : sigOf tab 15 = some 1 := rfl
@[simp] theorem sig_16 : sigOf tab 16 = none := rfl
@[simp] theorem sig_17 : sigOf tab 17 = some 0 := rfl
@[simp] theorem sig_18 : sigOf tab 18 = some 0 := rfl
@[simp] theorem sig_19 : sigOf tab 19 = none := rfl
@[simp] theorem sig_20 : sigOf tab 20 = some 0 := rfl
@[simp] theorem sig_21 : sigOf tab 21 = some 0 := rfl
@[simp] theorem sig_22 : sigOf tab 22 = none := rfl
theorem chance (k : Nat) {p : List D} (hp : Pl p) : ∃ x y p', callN tab (k + 2) 13 [.lst true p] = .ok (.tup [.int x, .int y]) [some (.lst true p')] ∧ Pl p' := by
  obtain ⟨v, p1, e1, h1, h2, hp1⟩ := draw k hp (m := 8) (by omega) (by omega)
  obtain ⟨v2, p2, e2, h3, h4, hp2⟩ := draw k hp1 (m := 2 + v - 1) (by omega) (by omega)
  obtain ⟨x, y, e3⟩ := fraction k (1 + v2) (2 + v) (by omega) (by omega) (by omega) (by omega)
  refine ⟨x, y, p2, ?_, hp2⟩
  show runF (sigOf tab) (callN tab (k + 1)) f_law_chance _ = _
  simp [f_law_chance, runF, exs, ex, ev3, ev3s, evs, evz, evc, callArgs, perm, giveBack, Md.mk', Md.z, Md.p, peek, putE, putsE, has, hasL, E.slot?, E.simple, varV, finE, e1, e2, e3, List.range, List.range.loop]
end K84
end
section
set_option maxRecDepth 100000
set_option linter.all false
/-! K84M5: trees without tells, and how they are made. -/
namespace K84
open Sf
inductive Hd where
  | look (a : Int)
  | draw (x y : Int)
  | block (a m : Int)
inductive Tr where
  | fin
  | nd (h : Hd) (cs : List Tr)
def sEnd : List Nat := [101, 110, 100]
def sLook : List Nat := [108, 111, 111, 107]
def sBlock : List Nat := [98, 108, 111, 99, 107]
def sDraw : List Nat := [100, 114, 97, 119]
def sTell : List Nat := [116, 101, 108, 108]
/-- a node with what stands for its children -/
def Hd.node (h : Hd) (cs : List D) : D := match h with
  | .look a => .tup (.str sLook :: .int a :: cs)
  | .draw x y => .tup (.str sDraw :: .tup [.int x, .int y] :: cs)
  | .block a m => .tup [.str sBlock, .int a, .int m, .tup cs]
def Hd.ok (h : Hd) (n : Nat) : Prop := match h with
  | .look _ => n = 2
  | .draw _ _ => n = 2
  | .block _ _ => 1 ≤ n ∧ n ≤ 4
mutual
def enc : Tr → D
  | .fin => .tup [.str sEnd]
  | .nd h cs => h.node (encs cs)
def encs : List Tr → List D
  | [] => []
  | t :: ts => enc t :: encs ts
end
mutual
/-- well formed, at most so deep -/
def wf : Nat → Tr → Prop
  | _, .fin => True
  | 0, .nd _ _ => False
  | n + 1, .nd h cs => h.ok cs.length ∧ wfs n cs
def wfs : Nat → List Tr → Prop
  | _, [] => True
  | n, t :: ts => wf n t ∧ wfs n ts
end
theorem encs_len : ∀ ts : List Tr, (encs ts).length = ts.length
  | [] => rfl
  | _ :: ts => by simp only [encs, List.length_cons, encs_len ts]
theorem wfs_append {n : Nat} : ∀ {ts us : List Tr}, wfs n ts → wfs n us → wfs n (ts ++ us)
  | [], _, _, h => h
  | _ :: ts, us, h, h2 => by
    simp only [wfs, List.cons_append] at h ⊢
    exact ⟨h.1, wfs_append h.2 h2⟩
theorem encs_append : ∀ ts us : List Tr, encs (ts ++ us) = encs ts ++ encs us
  | [], _ => rfl
  | t :: ts, us => by simp only [encs, List.cons_append, encs_append ts us]
end K84
end
section
set_option maxRecDepth 100000
set_option linter.all false
namespace K84
open Sf
local macro_rules
  | `(tactic| trivial) => `(tactic| simp only [WO_some, WO_none, ↓WO_map, ↓WO_bind, WO_iteN, ↓W_ok, ↓W_bad, ↓W_lift, ↓W_bnd, W_iteBad, W_ite, ↓WS_nx, ↓WS_rt, ↓WS_bk, ↓WS_ct, ↓WS_bad, ↓WS_fin, WS_iteBad, WS_ite, W_ok, W_bad, W_lift, W_bnd,
    ↓w_z, w_pS, w_pN, ↓w_varV, ↓w_var, ↓w_cint, ↓w_cbl, ↓w_cnon, ↓w_cstr, ↓w_bin, ↓w_neg, ↓w_cmp, ↓w_chn, ↓w_not, ↓w_and, ↓w_or, ↓w_one, ↓w_ifx, ↓w_tup, ↓w_lst, ↓w_dic0, ↓w_subV, ↓w_subN, ↓w_slcV, ↓w_slcN, ↓w_call, ↓w_bi, ↓w_bi2, ↓w_isi, ↓w_comp, ↓w_anyA, ↓w_pop0, ↓w_pop1, ↓w_index, ↓w_lrng, ↓w_rng1, ↓w_rng2, ↓w_rng3, ↓w_enm, ↓w_zip, ↓w_iV, ↓w_i_sub, ↓w_i_slc, ↓w_i_call, ↓w_i_tup, ↓w_i_comp,
    w_evs0, w_evs, w_evz0, w_evz, w_evc0, w_evc, ↓w_evo0, w_evo0, w_evo, ↓w_tV, ↓w_tcbl, ↓w_tnot, ↓w_tand, ↓w_tor, ↓w_tone, ↓w_t_cmp, ↓w_t_chn, ↓w_t_call, ↓w_t_sub, ↓w_t_isi, ↓w_t_bi, ↓w_t_bin, w_evts0, w_evts,
    s_nil, s_cons, o_none, o_some, ca_none, ca_some, pm_nil, pm_none, pl_nil, pl_cons, gb_none, gb_some, ↓w_has, isL_some, ↓w_hasL, ↓x_asg, ↓x_asgT, ↓x_par, ↓x_aug, setD_L, ↓x_setx, appD_L, ↓x_app, ↓x_expr, ↓x_ret, ↓x_retN, ↓x_ite, ↓x_whl, ↓x_for, ↓x_brk, ↓x_cnt, ↓x_pass, ↓WS_nil, ↓WS_cons, ↓WS_fF, ↓W_cF,
    bt_nm, bt_tp, pu_nil, pu_cons, pk_z, pk_s, pt_z, pt_s, oz_nil, oz_cons, zq_none, zq_some, wp_nil, wp_cons, bk_nil, bk_cons, fe_none, fe_0, fe_1, jn_some, mv_L, mv_D, mv_non, mv_bl, mv_int, mv_str, mv_tup, mv_F, mv_scr, mv_z,
    slot_var, slot_bad, slot_cint, slot_cbl, slot_cnon, slot_cstr, slot_bin, slot_neg, slot_cmp, slot_chn, slot_not, slot_and, slot_or, slot_ifx, slot_one, slot_tup, slot_lst, slot_sub, slot_slc, slot_call, slot_bi, slot_bi2, slot_isi, slot_comp, slot_lrng, slot_pop0, slot_pop1, slot_index, simple_var, simple_cint, simple_cbl, simple_cnon, simple_cstr, simple_bin, simple_neg, simple_sub, simple_slc, simple_call, simple_bi, simple_bi2, simple_isi, simple_lst, simple_tup, simple_comp, popD, popI, augop, iteq, itemsq, itemsp, List.getElem?_cons_zero, List.getElem?_cons_succ, List.set_cons_zero, List.set_cons_succ, List.replicate_succ, List.replicate_zero, List.map_cons, List.map_nil, List.cons_append, List.nil_append, List.length_cons, List.length_nil,
    Option.bind_some, Option.bind_none, Option.map_some, Option.map_none, Option.join_some, Option.toList_some, Option.toList_none, id_eq,
    frz_non, frz_bl, frz_int, frz_str, frz_tup, frz_lst, frz_dic, frz_scr, isZ_non, isZ_bl, isZ_int, isZ_str, isZ_tup, isZ_lstT, isZ_lstF, isZ_scr, tru_non, tru_bl, tru_int, tru_tup, tru_lst, asInt_int,
    c_eqI, c_neI, c_eqS, c_eqT, c_ltI, c_leI, c_gtI, c_geI, b_addI, b_subI, b_mulI, b_fdivI, b_modI, b_addL, b_addT, b_addS, b_mulL, sl_L, sl_T, bi_lenT, bi_lenL, bi_lenS, bi_absI, bi_intI, bi_listT, bi_listL, bi_listS, bi_tupT, bi_tupL, idx_T, idx_L, atq_0, atq_1, atq_2, atq_3, ixq_0, ixq_1, ixq_2,
    Nat.reduceSub, Nat.reduceAdd, Nat.reduceEqDiff, Int.reduceNeg, Int.reduceAdd, Int.reduceSub, Int.reduceMul, Int.reduceLT, Int.reduceLE, Option.some.injEq, Nat.reduceLeDiff, Nat.zero_add, List.isEmpty_cons, List.isEmpty_nil,
    if_true, if_false, ite_true, ite_false, ↓reduceIte, decide_eq_true_eq, beq_iff_eq, bne_iff_ne, ne_eq, Bool.not_eq_true', Bool.not_eq_eq_eq_not, Bool.and_true, Bool.true_and, Bool.false_and, Bool.not_true, Bool.not_false, Bool.false_eq_true, reduceCtorEq, and_true, true_and, and_self, bltg, isiq,
    f_is_number, f_nexts_of, f_walk, f_lower, f_hopes, f_follows, f_nested, f_law_pool, f_law_draw, f_law_pick, f_law_shuffled, f_law_same, f_law_fraction, f_law_chance, f_law_tree, f_law_nodes, f_law_plan, f_law_names, f_law_bare, f_law_ends, f_law_with_tells, f_law_marks, f_law,
    sig_0, sig_1, sig_2, sig_3, sig_4, sig_5, sig_6, sig_7, sig_8, sig_9, sig_10, sig_11, sig_12, sig_13, sig_14, sig_15, sig_16, sig_17, sig_18, sig_19, sig_20, sig_21, sig_22])
  | `(tactic| exists $es:term,*) => `(tactic| simp only [WO_some, WO_none, ↓WO_map, ↓WO_bind, WO_iteN, ↓W_ok, ↓W_bad, ↓W_lift, ↓W_bnd, W_iteBad, W_ite, ↓WS_nx, ↓WS_rt, ↓WS_bk, ↓WS_ct, ↓WS_bad, ↓WS_fin, WS_iteBad, WS_ite, W_ok, W_bad, W_lift, W_bnd,
    ↓w_z, w_pS, w_pN, ↓w_varV, ↓w_var, ↓w_cint, ↓w_cbl, ↓w_cnon, ↓w_cstr, ↓w_bin, ↓w_neg, ↓w_cmp, ↓w_chn, ↓w_not, ↓w_and, ↓w_or, ↓w_one, ↓w_ifx, ↓w_tup, ↓w_lst, ↓w_dic0, ↓w_subV, ↓w_subN, ↓w_slcV, ↓w_slcN, ↓w_call, ↓w_bi, ↓w_bi2, ↓w_isi, ↓w_comp, ↓w_anyA, ↓w_pop0, ↓w_pop1, ↓w_index, ↓w_lrng, ↓w_rng1, ↓w_rng2, ↓w_rng3, ↓w_enm, ↓w_zip, ↓w_iV, ↓w_i_sub, ↓w_i_slc, ↓w_i_call, ↓w_i_tup, ↓w_i_comp,
    w_evs0, w_evs, w_evz0, w_evz, w_evc0, w_evc, ↓w_evo0, w_evo0, w_evo, ↓w_tV, ↓w_tcbl, ↓w_tnot, ↓w_tand, ↓w_tor, ↓w_tone, ↓w_t_cmp, ↓w_t_chn, ↓w_t_call, ↓w_t_sub, ↓w_t_isi, ↓w_t_bi, ↓w_t_bin, w_evts0, w_evts,
    s_nil, s_cons, o_none, o_some, ca_none, ca_some, pm_nil, pm_none, pl_nil, pl_cons, gb_none, gb_some, ↓w_has, isL_some, ↓w_hasL, ↓x_asg, ↓x_asgT, ↓x_par, ↓x_aug, setD_L, ↓x_setx, appD_L, ↓x_app, ↓x_expr, ↓x_ret, ↓x_retN, ↓x_ite, ↓x_whl, ↓x_for, ↓x_brk, ↓x_cnt, ↓x_pass, ↓WS_nil, ↓WS_cons, ↓WS_fF, ↓W_cF,
    bt_nm, bt_tp, pu_nil, pu_cons, pk_z, pk_s, pt_z, pt_s, oz_nil, oz_cons, zq_none, zq_some, wp_nil, wp_cons, bk_nil, bk_cons, fe_none, fe_0, fe_1, jn_some, mv_L, mv_D, mv_non, mv_bl, mv_int, mv_str, mv_tup, mv_F, mv_scr, mv_z,
    slot_var, slot_bad, slot_cint, slot_cbl, slot_cnon, slot_cstr, slot_bin, slot_neg, slot_cmp, slot_chn, slot_not, slot_and, slot_or, slot_ifx, slot_one, slot_tup, slot_lst, slot_sub, slot_slc, slot_call, slot_bi, slot_bi2, slot_isi, slot_comp, slot_lrng, slot_pop0, slot_pop1, slot_index, simple_var, simple_cint, simple_cbl, simple_cnon, simple_cstr, simple_bin, simple_neg, simple_sub, simple_slc, simple_call, simple_bi, simple_bi2, simple_isi, simple_lst, simple_tup, simple_comp, popD, popI, augop, iteq, itemsq, itemsp, List.getElem?_cons_zero, List.getElem?_cons_succ, List.set_cons_zero, List.set_cons_succ, List.replicate_succ, List.replicate_zero, List.map_cons, List.map_nil, List.cons_append, List.nil_append, List.length_cons, List.length_nil,
    Option.bind_some, Option.bind_none, Option.map_some, Option.map_none, Option.join_some, Option.toList_some, Option.toList_none, id_eq,
    frz_non, frz_bl, frz_int, frz_str, frz_tup, frz_lst, frz_dic, frz_scr, isZ_non, isZ_bl, isZ_int, isZ_str, isZ_tup, isZ_lstT, isZ_lstF, isZ_scr, tru_non, tru_bl, tru_int, tru_tup, tru_lst, asInt_int,
    c_eqI, c_neI, c_eqS, c_eqT, c_ltI, c_leI, c_gtI, c_geI, b_addI, b_subI, b_mulI, b_fdivI, b_modI, b_addL, b_addT, b_addS, b_mulL, sl_L, sl_T, bi_lenT, bi_lenL, bi_lenS, bi_absI, bi_intI, bi_listT, bi_listL, bi_listS, bi_tupT, bi_tupL, idx_T, idx_L, atq_0, atq_1, atq_2, atq_3, ixq_0, ixq_1, ixq_2,
    Nat.reduceSub, Nat.reduceAdd, Nat.reduceEqDiff, Int.reduceNeg, Int.reduceAdd, Int.reduceSub, Int.reduceMul, Int.reduceLT, Int.reduceLE, Option.some.injEq, Nat.reduceLeDiff, Nat.zero_add, List.isEmpty_cons, List.isEmpty_nil,
    if_true, if_false, ite_true, ite_false, ↓reduceIte, decide_eq_true_eq, beq_iff_eq, bne_iff_ne, ne_eq, Bool.not_eq_true', Bool.not_eq_eq_eq_not, Bool.and_true, Bool.true_and, Bool.false_and, Bool.not_true, Bool.not_false, Bool.false_eq_true, reduceCtorEq, and_true, true_and, and_self, bltg, isiq,
    f_is_number, f_nexts_of, f_walk, f_lower, f_hopes, f_follows, f_nested, f_law_pool, f_law_draw, f_law_pick, f_law_shuffled, f_law_same, f_law_fraction, f_law_chance, f_law_tree, f_law_nodes, f_law_plan, f_law_names, f_law_bare, f_law_ends, f_law_with_tells, f_law_marks, f_law,
    sig_0, sig_1, sig_2, sig_3, sig_4, sig_5, sig_6, sig_7, sig_8, sig_9, sig_10, sig_11, sig_12, sig_13, sig_14, sig_15, sig_16, sig_17, sig_18, sig_19, sig_20, sig_21, sig_22, $[$es:term],*])
theorem w_draw {k : Nat} {p : List D} {m : Int} {Q : D → Env → Prop} {X : XC} {t} (hp : Pl p) (hm : 0 < m) (hm2 : m < 2 ^ 64) (h : ∀ (v : Int) p', 0 ≤ v → v < m → Pl p' → Q (.int v) [some (.lst true p'), none]) : W (callN tab (k + 1) 8 [.lst true p, .int m]) Q X t := by
  obtain ⟨v, p', e, h1, h2, h3⟩ := draw k hp hm hm2
  exact W_of e (h v p' h1 h2 h3)
theorem w_fraction {k : Nat} {a b : Int} {Q : D → Env → Prop} {X : XC} {t} (ha : 0 ≤ a) (ha2 : a < 2 ^ 60) (hb : 0 < b) (hb2 : b < 2 ^ 60) (h : ∀ x y, Q (.tup [.int x, .int y]) [none, none]) : W (callN tab (k + 1) 12 [.int a, .int b]) Q X t := by
  obtain ⟨x, y, e⟩ := fraction k a b ha ha2 hb hb2
  exact W_of e (h x y)
theorem w_chance {k : Nat} {p : List D} {Q : D → Env → Prop} {X : XC} {t} (hp : Pl p) (h : ∀ x y p', Pl p' → Q (.tup [.int x, .int y]) [some (.lst true p')]) : W (callN tab (k + 2) 13 [.lst true p]) Q X t := by
  refine W_call (fn := f_law_chance) rfl rfl ?_
  simp only [f_law_chance]
  trivial
  refine w_draw hp (by omega) (by omega) fun v p1 h1 h2 hp1 => ?_
  trivial
  refine w_draw hp1 (by omega) (by omega) fun v2 p2 h3 h4 hp2 => ?_
  trivial
  refine w_fraction (by omega) (by omega) (by omega) (by omega) fun x y => ?_
  trivial
  exact h x y p2 hp2
end K84
end
section
set_option maxRecDepth 100000
set_option linter.all false
/-! the defs, each ready to be run -/
namespace K84
open Sf
section
variable {k : Nat} {Q : D → Env → Prop} {X : XC} {t : T2 Q X}
theorem C0 {a : D} (h : WS (exs (sigOf tab) (callN tab k) f_is_number.body [some a]) (fun r => Q .non (finE (none) 1 r)) (fun d r => Q d (finE (none) 1 r)) (fun _ => False) (fun _ => False) (fun c xs r => X c xs (finE (none) 1 r)) ⟨⟩) : W (callN tab (k + 1) 0 [a]) Q X t := W_call (fn := f_is_number) rfl rfl h
theorem C1 {a : D} (h : WS (exs (sigOf tab) (callN tab k) f_nexts_of.body [some a, none]) (fun r => Q .non (finE (none) 1 r)) (fun d r => Q d (finE (none) 1 r)) (fun _ => False) (fun _ => False) (fun c xs r => X c xs (finE (none) 1 r)) ⟨⟩) : W (callN tab (k + 1) 1 [a]) Q X t := W_call (fn := f_nexts_of) rfl rfl h
theorem C2 {a b : D} (h : WS (exs (sigOf tab) (callN tab k) f_walk.body [some a, some b, none, none, none, none, none, none]) (fun r => Q .non (finE (none) 2 r)) (fun d r => Q d (finE (none) 2 r)) (fun _ => False) (fun _ => False) (fun c xs r => X c xs (finE (none) 2 r)) ⟨⟩) : W (callN tab (k + 1) 2 [a, b]) Q X t := W_call (fn := f_walk) rfl rfl h
theorem C3 {a b c : D} (h : WS (exs (sigOf tab) (callN tab k) f_lower.body [some a, some b, some c, none, none]) (fun r => Q .non (finE (none) 3 r)) (fun d r => Q d (finE (none) 3 r)) (fun _ => False) (fun _ => False) (fun c xs r => X c xs (finE (none) 3 r)) ⟨⟩) : W (callN tab (k + 1) 3 [a, b, c]) Q X t := W_call (fn := f_lower) rfl rfl h
theorem C4 {a : D} (h : WS (exs (sigOf tab) (callN tab k) f_hopes.body [some a, none, none, none, none, none]) (fun r => Q .non (finE (none) 1 r)) (fun d r => Q d (finE (none) 1 r)) (fun _ => False) (fun _ => False) (fun c xs r => X c xs (finE (none) 1 r)) ⟨⟩) : W (callN tab (k + 1) 4 [a]) Q X t := W_call (fn := f_hopes) rfl rfl h
theorem C5 {a b : D} (h : WS (exs (sigOf tab) (callN tab k) f_follows.body [some a, some b, none, none, none, none, none, none, none, none, none, none, none]) (fun r => Q .non (finE (none) 2 r)) (fun d r => Q d (finE (none) 2 r)) (fun _ => False) (fun _ => False) (fun c xs r => X c xs (finE (none) 2 r)) ⟨⟩) : W (callN tab (k + 1) 5 [a, b]) Q X t := W_call (fn := f_follows) rfl rfl h
theorem C6 {a : D} (h : WS (exs (sigOf tab) (callN tab k) f_nested.body [some a, none]) (fun r => Q .non (finE (none) 1 r)) (fun d r => Q d (finE (none) 1 r)) (fun _ => False) (fun _ => False) (fun c xs r => X c xs (finE (none) 1 r)) ⟨⟩) : W (callN tab (k + 1) 6 [a]) Q X t := W_call (fn := f_nested) rfl rfl h
theorem C7 {a : D} (h : WS (exs (sigOf tab) (callN tab k) f_law_pool.body [some a]) (fun r => Q .non (finE (none) 1 r)) (fun d r => Q d (finE (none) 1 r)) (fun _ => False) (fun _ => False) (fun c xs r => X c xs (finE (none) 1 r)) ⟨⟩) : W (callN tab (k + 1) 7 [a]) Q X t := W_call (fn := f_law_pool) rfl rfl h
theorem C8 {a b : D} (h : WS (exs (sigOf tab) (callN tab k) f_law_draw.body [some a, some b, none, none, none]) (fun r => Q .non (finE (some 0) 2 r)) (fun d r => Q d (finE (some 0) 2 r)) (fun _ => False) (fun _ => False) (fun c xs r => X c xs (finE (some 0) 2 r)) ⟨⟩) : W (callN tab (k + 1) 8 [a, b]) Q X t := W_call (fn := f_law_draw) rfl rfl h
theorem C9 {a b : D} (h : WS (exs (sigOf tab) (callN tab k) f_law_pick.body [some a, some b]) (fun r => Q .non (finE (some 0) 2 r)) (fun d r => Q d (finE (some 0) 2 r)) (fun _ => False) (fun _ => False) (fun c xs r => X c xs (finE (some 0) 2 r)) ⟨⟩) : W (callN tab (k + 1) 9 [a, b]) Q X t := W_call (fn := f_law_pick) rfl rfl h
theorem C10 {a b : D} (h : WS (exs (sigOf tab) (callN tab k) f_law_shuffled.body [some a, some b, none, none]) (fun r => Q .non (finE (some 0) 2 r)) (fun d r => Q d (finE (some 0) 2 r)) (fun _ => False) (fun _ => False) (fun c xs r => X c xs (finE (some 0) 2 r)) ⟨⟩) : W (callN tab (k + 1) 10 [a, b]) Q X t := W_call (fn := f_law_shuffled) rfl rfl h
theorem C11 {a b : D} (h : WS (exs (sigOf tab) (callN tab k) f_law_same.body [some a, some b, none]) (fun r => Q .non (finE (none) 2 r)) (fun d r => Q d (finE (none) 2 r)) (fun _ => False) (fun _ => False) (fun c xs r => X c xs (finE (none) 2 r)) ⟨⟩) : W (callN tab (k + 1) 11 [a, b]) Q X t := W_call (fn := f_law_same) rfl rfl h
theorem C12 {a b : D} (h : WS (exs (sigOf tab) (callN tab k) f_law_fraction.body [some a, some b, none, none, none, none]) (fun r => Q .non (finE (none) 2 r)) (fun d r => Q d (finE (none) 2 r)) (fun _ => False) (fun _ => False) (fun c xs r => X c xs (finE (none) 2 r)) ⟨⟩) : W (callN tab (k + 1) 12 [a, b]) Q X t := W_call (fn := f_law_fraction) rfl rfl h
theorem C13 {a : D} (h : WS (exs (sigOf tab) (callN tab k) f_law_chance.body [some a, none]) (fun r => Q .non (finE (some 0) 1 r)) (fun d r => Q d (finE (some 0) 1 r)) (fun _ => False) (fun _ => False) (fun c xs r => X c xs (finE (some 0) 1 r)) ⟨⟩) : W (callN tab (k + 1) 13 [a]) Q X t := W_call (fn := f_law_chance) rfl rfl h
theorem C14 {a b c d e f : D} (h : WS (exs (sigOf tab) (callN tab k) f_law_tree.body [some a, some b, some c, some d, some e, some f, none, none, none, none, none, none]) (fun r => Q .non (finE (some 0) 6 r)) (fun d r => Q d (finE (some 0) 6 r)) (fun _ => False) (fun _ => False) (fun c xs r => X c xs (finE (some 0) 6 r)) ⟨⟩) : W (callN tab (k + 1) 14 [a, b, c, d, e, f]) Q X t := W_call (fn := f_law_tree) rfl rfl h
theorem C15 {a b : D} (h : WS (exs (sigOf tab) (callN tab k) f_law_nodes.body [some a, some b, none, none]) (fun r => Q .non (finE (some 1) 2 r)) (fun d r => Q d (finE (some 1) 2 r)) (fun _ => False) (fun _ => False) (fun c xs r => X c xs (finE (some 1) 2 r)) ⟨⟩) : W (callN tab (k + 1) 15 [a, b]) Q X t := W_call (fn := f_law_nodes) rfl rfl h
theorem C16 {a b c : D} (h : WS (exs (sigOf tab) (callN tab k) f_law_plan.body [some a, some b, some c, none]) (fun r => Q .non (finE (none) 3 r)) (fun d r => Q d (finE (none) 3 r)) (fun _ => False) (fun _ => False) (fun c xs r => X c xs (finE (none) 3 r)) ⟨⟩) : W (callN tab (k + 1) 16 [a, b, c]) Q X t := W_call (fn := f_law_plan) rfl rfl h
theorem C17 {a b : D} (h : WS (exs (sigOf tab) (callN tab k) f_law_names.body [some a, some b, none, none, none]) (fun r => Q .non (finE (some 0) 2 r)) (fun d r => Q d (finE (some 0) 2 r)) (fun _ => False) (fun _ => False) (fun c xs r => X c xs (finE (some 0) 2 r)) ⟨⟩) : W (callN tab (k + 1) 17 [a, b]) Q X t := W_call (fn := f_law_names) rfl rfl h
theorem C18 {a b c d : D} (h : WS (exs (sigOf tab) (callN tab k) f_law_bare.body [some a, some b, some c, some d]) (fun r => Q .non (finE (some 0) 4 r)) (fun d r => Q d (finE (some 0) 4 r)) (fun _ => False) (fun _ => False) (fun c xs r => X c xs (finE (some 0) 4 r)) ⟨⟩) : W (callN tab (k + 1) 18 [a, b, c, d]) Q X t := W_call (fn := f_law_bare) rfl rfl h
theorem C19 {a b : D} (h : WS (exs (sigOf tab) (callN tab k) f_law_ends.body [some a, some b, none, none, none]) (fun r => Q .non (finE (none) 2 r)) (fun d r => Q d (finE (none) 2 r)) (fun _ => False) (fun _ => False) (fun c xs r => X c xs (finE (none) 2 r)) ⟨⟩) : W (callN tab (k + 1) 19 [a, b]) Q X t := W_call (fn := f_law_ends) rfl rfl h
theorem C20 {a b c : D} (h : WS (exs (sigOf tab) (callN tab k) f_law_with_tells.body [some a, some b, some c, none, none, none, none, none, none, none]) (fun r => Q .non (finE (some 0) 3 r)) (fun d r => Q d (finE (some 0) 3 r)) (fun _ => False) (fun _ => False) (fun c xs r => X c xs (finE (some 0) 3 r)) ⟨⟩) : W (callN tab (k + 1) 20 [a, b, c]) Q X t := W_call (fn := f_law_with_tells) rfl rfl h
theorem C21 {a b : D} (h : WS (exs (sigOf tab) (callN tab k) f_law_marks.body [some a, some b, none, none, none]) (fun r => Q .non (finE (some 0) 2 r)) (fun d r => Q d (finE (some 0) 2 r)) (fun _ => False) (fun _ => False) (fun c xs r => X c xs (finE (some 0) 2 r)) ⟨⟩) : W (callN tab (k + 1) 21 [a, b]) Q X t := W_call (fn := f_law_marks) rfl rfl h
theorem C22 {a : D} (h : WS (exs (sigOf tab) (callN tab k) f_law.body [some a, none, none, none, none, none, none, none, none, none, none, none, none, none, none, none, none, none, none, none, none, none, none, none]) (fun r => Q .non (finE (none) 1 r)) (fun d r => Q d (finE (none) 1 r)) (fun _ => False) (fun _ => False) (fun c xs r => X c xs (finE (none) 1 r)) ⟨⟩) : W (callN tab (k + 1) 22 [a]) Q X t := W_call (fn := f_law) rfl rfl h
end
end K84
end
section
set_option maxRecDepth 100000
set_option linter.all false
/-! bodies, statement by statement -/
namespace K84
open Sf
def tree_0 : S := Sf.S.asg 6 (Sf.E.call 8 [Sf.E.var 0, Sf.E.cint 9] [])
def tree_1 : S := Sf.S.ite (Sf.E.and (Sf.E.cmp (Sf.COp.lt) (Sf.E.var 6) (Sf.E.cint 4)) (Sf.E.and (Sf.E.cmp (Sf.COp.gt) (Sf.E.var 3) (Sf.E.cint 0)) (Sf.E.one (Sf.E.cmp (Sf.COp.gt) (Sf.E.var 5) (Sf.E.cint 0))))) [Sf.S.asg 7 (Sf.E.comp (Sf.E.call 14 [Sf.E.var 0, Sf.E.var 1, Sf.E.var 2, Sf.E.bin (Sf.BOp.sub) (Sf.E.var 3) (Sf.E.cint 1), Sf.E.var 4, Sf.E.bin (Sf.BOp.sub) (Sf.E.var 5) (Sf.E.cint 1)] []) (Sf.T.nm 10) (Sf.E.rng1 (Sf.E.cint 2)) [] [10]), Sf.S.ret (Sf.E.tup [Sf.E.cstr [108, 111, 111, 107], Sf.E.call 8 [Sf.E.var 0, Sf.E.var 1] [], Sf.E.sub (Sf.E.var 7) (Sf.E.cint 0), Sf.E.sub (Sf.E.var 7) (Sf.E.cint 1)])] []
def tree_2 : S := Sf.S.ite (Sf.E.and (Sf.E.cmp (Sf.COp.eq) (Sf.E.var 6) (Sf.E.cint 4)) (Sf.E.and (Sf.E.cmp (Sf.COp.gt) (Sf.E.var 3) (Sf.E.cint 1)) (Sf.E.one (Sf.E.cmp (Sf.COp.gt) (Sf.E.var 5) (Sf.E.cint 0))))) [Sf.S.asg 8 (Sf.E.bin (Sf.BOp.add) (Sf.E.cint 2) (Sf.E.call 8 [Sf.E.var 0, Sf.E.bi2 (Sf.Bi2.min) (Sf.E.cint 2) (Sf.E.bin (Sf.BOp.sub) (Sf.E.var 3) (Sf.E.cint 1))] [])), Sf.S.ret (Sf.E.tup [Sf.E.cstr [98, 108, 111, 99, 107], Sf.E.call 8 [Sf.E.var 0, Sf.E.var 1] [], Sf.E.var 8, Sf.E.bi (Sf.Bi.tuple) (Sf.E.comp (Sf.E.call 14 [Sf.E.var 0, Sf.E.var 1, Sf.E.var 2, Sf.E.bin (Sf.BOp.sub) (Sf.E.var 3) (Sf.E.var 8), Sf.E.var 4, Sf.E.bin (Sf.BOp.sub) (Sf.E.var 5) (Sf.E.cint 2)] []) (Sf.T.nm 10) (Sf.E.rng1 (Sf.E.bin (Sf.BOp.add) (Sf.E.var 8) (Sf.E.cint 1))) [] [10])])] []
def tree_3 : S := Sf.S.ite (Sf.E.and (Sf.E.cmp (Sf.COp.eq) (Sf.E.var 6) (Sf.E.cint 5)) (Sf.E.and (Sf.E.cmp (Sf.COp.gt) (Sf.E.var 4) (Sf.E.cint 0)) (Sf.E.one (Sf.E.cmp (Sf.COp.gt) (Sf.E.var 5) (Sf.E.cint 0))))) [Sf.S.asg 7 (Sf.E.comp (Sf.E.call 14 [Sf.E.var 0, Sf.E.var 1, Sf.E.var 2, Sf.E.var 3, Sf.E.bin (Sf.BOp.sub) (Sf.E.var 4) (Sf.E.cint 1), Sf.E.bin (Sf.BOp.sub) (Sf.E.var 5) (Sf.E.cint 1)] []) (Sf.T.nm 10) (Sf.E.rng1 (Sf.E.cint 2)) [] [10]), Sf.S.ret (Sf.E.tup [Sf.E.cstr [100, 114, 97, 119], Sf.E.call 13 [Sf.E.var 0] [], Sf.E.sub (Sf.E.var 7) (Sf.E.cint 0), Sf.E.sub (Sf.E.var 7) (Sf.E.cint 1)])] []
def tree_4 : S := Sf.S.ite (Sf.E.and (Sf.E.cmp (Sf.COp.lt) (Sf.E.var 6) (Sf.E.cint 8)) (Sf.E.and (Sf.E.cmp (Sf.COp.ne) (Sf.E.var 2) (Sf.E.lst [])) (Sf.E.one (Sf.E.cmp (Sf.COp.gt) (Sf.E.var 5) (Sf.E.neg (Sf.E.cint 2)))))) [Sf.S.asg 9 (Sf.E.call 9 [Sf.E.var 0, Sf.E.var 2] []), Sf.S.ret (Sf.E.tup [Sf.E.cstr [116, 101, 108, 108], Sf.E.var 9, Sf.E.call 14 [Sf.E.var 0, Sf.E.var 1, Sf.E.comp (Sf.E.var 11) (Sf.T.nm 11) (Sf.E.var 2) [Sf.E.cmp (Sf.COp.ne) (Sf.E.var 11) (Sf.E.var 9)] [11], Sf.E.var 3, Sf.E.var 4, Sf.E.var 5] []])] []
def tree_5 : S := Sf.S.ret (Sf.E.tup [Sf.E.cstr [101, 110, 100]])
theorem tree_is : f_law_tree.body = [tree_0, tree_1, tree_2, tree_3, tree_4, tree_5] := rfl
def with_tells_0 : S := Sf.S.asg 3 (Sf.E.bi (Sf.Bi.len) (Sf.E.call 19 [Sf.E.var 1, Sf.E.tup []] []))
def with_tells_1 : S := Sf.S.par [4, 5] [Sf.E.slc (Sf.E.var 2) none (some (Sf.E.var 3)), Sf.E.slc (Sf.E.var 2) (some (Sf.E.var 3)) none]
def with_tells_2 : S := Sf.S.ite (Sf.E.and (Sf.E.cmp (Sf.COp.notin) (Sf.E.cbl false) (Sf.E.var 4)) (Sf.E.one (Sf.E.or (Sf.E.cmp (Sf.COp.eq) (Sf.E.sub (Sf.E.var 1) (Sf.E.cint 0)) (Sf.E.cstr [101, 110, 100])) (Sf.E.one (Sf.E.cmp (Sf.COp.eq) (Sf.E.call 8 [Sf.E.var 0, Sf.E.cint 2] []) (Sf.E.cint 0)))))) [Sf.S.ret (Sf.E.tup [Sf.E.tup [Sf.E.cstr [116, 101, 108, 108], Sf.E.cint 0, Sf.E.var 1], Sf.E.var 5])] []
def with_tells_3 : S := Sf.S.ite (Sf.E.cmp (Sf.COp.eq) (Sf.E.sub (Sf.E.var 1) (Sf.E.cint 0)) (Sf.E.cstr [101, 110, 100])) [Sf.S.ret (Sf.E.tup [Sf.E.var 1, Sf.E.var 5])] []
def with_tells_4 : S := Sf.S.par [6, 7] [Sf.E.ifx (Sf.E.cmp (Sf.COp.eq) (Sf.E.sub (Sf.E.var 1) (Sf.E.cint 0)) (Sf.E.cstr [98, 108, 111, 99, 107])) (Sf.E.sub (Sf.E.var 1) (Sf.E.cint 3)) (Sf.E.slc (Sf.E.var 1) (some (Sf.E.cint 2)) none), Sf.E.lst []]
def with_tells_5 : S := Sf.S.for_ (Sf.T.nm 8) (Sf.E.var 6) [Sf.S.asgT [9, 4] (Sf.E.call 20 [Sf.E.var 0, Sf.E.var 8, Sf.E.var 4] []), Sf.S.app 7 (Sf.E.var 9)]
def with_tells_6 : S := Sf.S.ret (Sf.E.tup [Sf.E.ifx (Sf.E.cmp (Sf.COp.eq) (Sf.E.sub (Sf.E.var 1) (Sf.E.cint 0)) (Sf.E.cstr [98, 108, 111, 99, 107])) (Sf.E.bin (Sf.BOp.add) (Sf.E.slc (Sf.E.var 1) none (some (Sf.E.cint 3))) (Sf.E.tup [Sf.E.bi (Sf.Bi.tuple) (Sf.E.var 7)])) (Sf.E.bin (Sf.BOp.add) (Sf.E.slc (Sf.E.var 1) none (some (Sf.E.cint 2))) (Sf.E.bi (Sf.Bi.tuple) (Sf.E.var 7))), Sf.E.var 5])
theorem with_tells_is : f_law_with_tells.body = [with_tells_0, with_tells_1, with_tells_2, with_tells_3, with_tells_4, with_tells_5, with_tells_6] := rfl
def nodes_0 : S := Sf.S.asg 2 (Sf.E.bi (Sf.Bi.len) (Sf.E.var 1))
def nodes_1 : S := Sf.S.app 1 (Sf.E.cnon)
def nodes_2 : S := Sf.S.ite (Sf.E.cmp (Sf.COp.eq) (Sf.E.sub (Sf.E.var 0) (Sf.E.cint 0)) (Sf.E.cstr [108, 111, 111, 107])) [Sf.S.setx 1 (Sf.E.var 2) (Sf.E.bin (Sf.BOp.add) (Sf.E.slc (Sf.E.var 0) none (some (Sf.E.cint 2))) (Sf.E.bi (Sf.Bi.tuple) (Sf.E.comp (Sf.E.call 15 [Sf.E.var 3, Sf.E.var 1] []) (Sf.T.nm 3) (Sf.E.slc (Sf.E.var 0) (some (Sf.E.cint 2)) none) [] [3])))] [Sf.S.ite (Sf.E.cmp (Sf.COp.eq) (Sf.E.sub (Sf.E.var 0) (Sf.E.cint 0)) (Sf.E.cstr [98, 108, 111, 99, 107])) [Sf.S.setx 1 (Sf.E.var 2) (Sf.E.bin (Sf.BOp.add) (Sf.E.slc (Sf.E.var 0) none (some (Sf.E.cint 3))) (Sf.E.tup [Sf.E.bi (Sf.Bi.tuple) (Sf.E.comp (Sf.E.call 15 [Sf.E.var 3, Sf.E.var 1] []) (Sf.T.nm 3) (Sf.E.sub (Sf.E.var 0) (Sf.E.cint 3)) [] [3])]))] [Sf.S.ite (Sf.E.cmp (Sf.COp.eq) (Sf.E.sub (Sf.E.var 0) (Sf.E.cint 0)) (Sf.E.cstr [100, 114, 97, 119])) [Sf.S.setx 1 (Sf.E.var 2) (Sf.E.bin (Sf.BOp.add) (Sf.E.slc (Sf.E.var 0) none (some (Sf.E.cint 2))) (Sf.E.bi (Sf.Bi.tuple) (Sf.E.comp (Sf.E.call 15 [Sf.E.var 3, Sf.E.var 1] []) (Sf.T.nm 3) (Sf.E.slc (Sf.E.var 0) (some (Sf.E.cint 2)) none) [] [3])))] [Sf.S.ite (Sf.E.cmp (Sf.COp.eq) (Sf.E.sub (Sf.E.var 0) (Sf.E.cint 0)) (Sf.E.cstr [116, 101, 108, 108])) [Sf.S.setx 1 (Sf.E.var 2) (Sf.E.bin (Sf.BOp.add) (Sf.E.slc (Sf.E.var 0) none (some (Sf.E.cint 2))) (Sf.E.tup [Sf.E.call 15 [Sf.E.sub (Sf.E.var 0) (Sf.E.cint 2), Sf.E.var 1] []]))] [Sf.S.setx 1 (Sf.E.var 2) (Sf.E.var 0)]]]]
def nodes_3 : S := Sf.S.ret (Sf.E.var 2)
theorem nodes_is : f_law_nodes.body = [nodes_0, nodes_1, nodes_2, nodes_3] := rfl
def ends_0 : S := Sf.S.ite (Sf.E.cmp (Sf.COp.eq) (Sf.E.sub (Sf.E.var 0) (Sf.E.cint 0)) (Sf.E.cstr [101, 110, 100])) [Sf.S.ret (Sf.E.lst [Sf.E.var 1])] []
def ends_1 : S := Sf.S.asg 2 (Sf.E.ifx (Sf.E.cmp (Sf.COp.eq) (Sf.E.sub (Sf.E.var 0) (Sf.E.cint 0)) (Sf.E.cstr [98, 108, 111, 99, 107])) (Sf.E.sub (Sf.E.var 0) (Sf.E.cint 3)) (Sf.E.slc (Sf.E.var 0) (some (Sf.E.cint 2)) none))
def ends_2 : S := Sf.S.asg 3 (Sf.E.lst [])
def ends_3 : S := Sf.S.for_ (Sf.T.nm 4) (Sf.E.rng1 (Sf.E.bi (Sf.Bi.len) (Sf.E.var 2))) [Sf.S.asg 3 (Sf.E.bin (Sf.BOp.add) (Sf.E.var 3) (Sf.E.call 19 [Sf.E.sub (Sf.E.var 2) (Sf.E.var 4), Sf.E.bin (Sf.BOp.add) (Sf.E.var 1) (Sf.E.tup [Sf.E.var 4])] []))]
def ends_4 : S := Sf.S.ret (Sf.E.var 3)
theorem ends_is : f_law_ends.body = [ends_0, ends_1, ends_2, ends_3, ends_4] := rfl
def walk_0 : S := Sf.S.asg 2 (Sf.E.sub (Sf.E.var 0) (Sf.E.cint 2))
def walk_1 : S := Sf.S.asg 3 (Sf.E.cint 0)
def walk_2 : S := Sf.S.asg 4 (Sf.E.cint 0)
def walk_3 : S := Sf.S.asg 5 (Sf.E.lst [])
def walk_4 : S := Sf.S.whl (Sf.E.cbl true) [Sf.S.asg 6 (Sf.E.sub (Sf.E.var 2) (Sf.E.var 3)), Sf.S.ite (Sf.E.cmp (Sf.COp.eq) (Sf.E.sub (Sf.E.var 6) (Sf.E.cint 0)) (Sf.E.cstr [116, 101, 108, 108])) [Sf.S.app 5 (Sf.E.sub (Sf.E.var 6) (Sf.E.cint 1)), Sf.S.asg 3 (Sf.E.sub (Sf.E.var 6) (Sf.E.cint 2))] [Sf.S.ite (Sf.E.or (Sf.E.cmp (Sf.COp.eq) (Sf.E.sub (Sf.E.var 6) (Sf.E.cint 0)) (Sf.E.cstr [101, 110, 100])) (Sf.E.one (Sf.E.cmp (Sf.COp.eq) (Sf.E.var 4) (Sf.E.bi (Sf.Bi.len) (Sf.E.var 1))))) [Sf.S.ret (Sf.E.tup [Sf.E.var 3, Sf.E.bi (Sf.Bi.tuple) (Sf.E.bi (Sf.Bi.sorted) (Sf.E.var 5)), Sf.E.slc (Sf.E.var 1) (some (Sf.E.var 4)) none])] [Sf.S.asg 7 (Sf.E.call 1 [Sf.E.var 6] []), Sf.S.ite (Sf.E.or (Sf.E.not (Sf.E.call 0 [Sf.E.sub (Sf.E.var 1) (Sf.E.var 4)] [])) (Sf.E.one (Sf.E.not (Sf.E.chn (Sf.COp.le) (Sf.COp.lt) (Sf.E.cint 0) (Sf.E.sub (Sf.E.var 1) (Sf.E.var 4)) (Sf.E.bi (Sf.Bi.len) (Sf.E.var 7)))))) [Sf.S.bad] [], Sf.S.asg 3 (Sf.E.sub (Sf.E.var 7) (Sf.E.sub (Sf.E.var 1) (Sf.E.var 4))), Sf.S.aug 4 (Sf.BOp.add) (Sf.E.cint 1)]]]
theorem walk_is : f_walk.body = [walk_0, walk_1, walk_2, walk_3, walk_4] := rfl
def hopes_0 : S := Sf.S.asg 1 (Sf.E.bin (Sf.BOp.mul) (Sf.E.lst [Sf.E.cbl false]) (Sf.E.bi (Sf.Bi.len) (Sf.E.var 0)))
def hopes_1 : S := Sf.S.asg 2 (Sf.E.bin (Sf.BOp.mul) (Sf.E.lst [Sf.E.cbl false]) (Sf.E.bi (Sf.Bi.len) (Sf.E.var 0)))
def hopes_2 : S := Sf.S.for_ (Sf.T.nm 3) (Sf.E.rng3 (Sf.E.bin (Sf.BOp.sub) (Sf.E.bi (Sf.Bi.len) (Sf.E.var 0)) (Sf.E.cint 1)) (Sf.E.neg (Sf.E.cint 1)) (Sf.E.neg (Sf.E.cint 1))) [Sf.S.asg 4 (Sf.E.call 1 [Sf.E.sub (Sf.E.var 0) (Sf.E.var 3)] []), Sf.S.ite (Sf.E.cmp (Sf.COp.eq) (Sf.E.sub (Sf.E.sub (Sf.E.var 0) (Sf.E.var 3)) (Sf.E.cint 0)) (Sf.E.cstr [116, 101, 108, 108])) [Sf.S.setx 1 (Sf.E.var 3) (Sf.E.cbl true), Sf.S.setx 2 (Sf.E.var 3) (Sf.E.cbl true)] [Sf.S.ite (Sf.E.var 4) [Sf.S.setx 1 (Sf.E.var 3) (Sf.E.anyA false 1 (Sf.E.var 4)), Sf.S.setx 2 (Sf.E.var 3) (Sf.E.anyA true 2 (Sf.E.var 4))] []]]
def hopes_3 : S := Sf.S.ret (Sf.E.tup [Sf.E.var 1, Sf.E.var 2])
theorem hopes_is : f_hopes.body = [hopes_0, hopes_1, hopes_2, hopes_3] := rfl
def follows_0 : S := Sf.S.asgT [2, 3] (Sf.E.call 4 [Sf.E.var 0] [])
def follows_1 : S := Sf.S.asgT [4, 5] (Sf.E.call 4 [Sf.E.var 1] [])
def follows_2 : S := Sf.S.asg 6 (Sf.E.dic0)
def follows_3 : S := Sf.S.asg 7 (Sf.E.lst [Sf.E.tup [Sf.E.cint 0, Sf.E.cint 0]])
def follows_4 : S := Sf.S.whl (Sf.E.var 7) [Sf.S.asg 8 (Sf.E.pop0 7), Sf.S.asgT [9, 10] (Sf.E.var 8), Sf.S.ite (Sf.E.and (Sf.E.cmp (Sf.COp.notin) (Sf.E.var 8) (Sf.E.var 6)) (Sf.E.and (Sf.E.not (Sf.E.sub (Sf.E.var 3) (Sf.E.var 9))) (Sf.E.one (Sf.E.sub (Sf.E.var 4) (Sf.E.var 10))))) [Sf.S.setx 6 (Sf.E.var 8) (Sf.E.cbl true), Sf.S.ite (Sf.E.or (Sf.E.sub (Sf.E.var 5) (Sf.E.var 10)) (Sf.E.one (Sf.E.not (Sf.E.sub (Sf.E.var 2) (Sf.E.var 9))))) [Sf.S.ret (Sf.E.cbl false)] [], Sf.S.for_ (Sf.T.tp [11, 12]) (Sf.E.zip (Sf.E.call 1 [Sf.E.sub (Sf.E.var 0) (Sf.E.var 9)] []) (Sf.E.call 1 [Sf.E.sub (Sf.E.var 1) (Sf.E.var 10)] [])) [Sf.S.app 7 (Sf.E.tup [Sf.E.var 11, Sf.E.var 12])]] []]
def follows_5 : S := Sf.S.ret (Sf.E.cbl true)
theorem follows_is : f_follows.body = [follows_0, follows_1, follows_2, follows_3, follows_4, follows_5] := rfl
def law_0 : S := Sf.S.asg 1 (Sf.E.call 7 [Sf.E.var 0] [])
def law_1 : S := Sf.S.for_ (Sf.T.nm 2) (Sf.E.rng1 (Sf.E.cint 4)) [Sf.S.par [3, 4] [Sf.E.bin (Sf.BOp.add) (Sf.E.cint 1) (Sf.E.call 8 [Sf.E.var 1, Sf.E.cint 3] []), Sf.E.ifx (Sf.E.cmp (Sf.COp.eq) (Sf.E.call 8 [Sf.E.var 1, Sf.E.cint 16] []) (Sf.E.cint 0)) (Sf.E.cint 40) (Sf.E.bin (Sf.BOp.add) (Sf.E.cint 1) (Sf.E.call 8 [Sf.E.var 1, Sf.E.cint 6] []))], Sf.S.asg 5 (Sf.E.call 18 [Sf.E.var 1, Sf.E.var 3, Sf.E.cint 5, Sf.E.cint 5] []), Sf.S.par [6, 7] [Sf.E.call 19 [Sf.E.var 5, Sf.E.tup []] [], Sf.E.tup [Sf.E.call 17 [Sf.E.var 1, Sf.E.var 3] [], Sf.E.call 17 [Sf.E.var 1, Sf.E.cint 1] []]], Sf.S.par [8, 9, 10] [Sf.E.call 8 [Sf.E.var 1, Sf.E.cint 4] [], Sf.E.lst [], Sf.E.lst []], Sf.S.asg 11 (Sf.E.comp (Sf.E.call 8 [Sf.E.var 1, Sf.E.bin (Sf.BOp.add) (Sf.E.var 4) (Sf.E.cint 1)] []) (Sf.T.nm 23) (Sf.E.var 6) [] [23]), Sf.S.par [12, 13] [Sf.E.call 8 [Sf.E.var 1, Sf.E.bi (Sf.Bi.len) (Sf.E.var 6)] [], Sf.E.call 8 [Sf.E.var 1, Sf.E.var 4] []], Sf.S.for_ (Sf.T.nm 14) (Sf.E.rng1 (Sf.E.var 4)) [Sf.S.asg 15 (Sf.E.comp (Sf.E.ifx (Sf.E.cmp (Sf.COp.lt) (Sf.E.var 8) (Sf.E.cint 3)) (Sf.E.cmp (Sf.COp.gt) (Sf.E.sub (Sf.E.var 11) (Sf.E.var 20)) (Sf.E.var 14)) (Sf.E.cmp (Sf.COp.eq) (Sf.E.call 8 [Sf.E.var 1, Sf.E.cint 2] []) (Sf.E.cint 0))) (Sf.T.nm 20) (Sf.E.rng1 (Sf.E.bi (Sf.Bi.len) (Sf.E.var 6))) [] [20]), Sf.S.ite (Sf.E.and (Sf.E.cmp (Sf.COp.eq) (Sf.E.var 8) (Sf.E.cint 2)) (Sf.E.one (Sf.E.cmp (Sf.COp.eq) (Sf.E.var 14) (Sf.E.var 13)))) [Sf.S.setx 15 (Sf.E.var 12) (Sf.E.not (Sf.E.sub (Sf.E.var 15) (Sf.E.var 12)))] [], Sf.S.asgT [16, 17] (Sf.E.call 20 [Sf.E.var 1, Sf.E.var 5, Sf.E.var 15] []), Sf.S.app 9 (Sf.E.call 16 [Sf.E.sub (Sf.E.var 7) (Sf.E.cint 0), Sf.E.sub (Sf.E.var 7) (Sf.E.cint 1), Sf.E.var 16] []), Sf.S.app 10 (Sf.E.var 15)], Sf.S.par [18, 19] [Sf.E.call 21 [Sf.E.var 1, Sf.E.var 4] [], Sf.E.cbl true], Sf.S.for_ (Sf.T.nm 20) (Sf.E.rng1 (Sf.E.bi (Sf.Bi.len) (Sf.E.var 6))) [Sf.S.asg 21 (Sf.E.comp (Sf.E.sub (Sf.E.var 15) (Sf.E.var 20)) (Sf.T.nm 15) (Sf.E.var 10) [] [15]), Sf.S.asg 22 (Sf.E.ifx (Sf.E.cmp (Sf.COp.isin) (Sf.E.cbl false) (Sf.E.var 21)) (Sf.E.bin (Sf.BOp.sub) (Sf.E.index (Sf.E.var 21) (Sf.E.cbl false)) (Sf.E.cint 1)) (Sf.E.bin (Sf.BOp.sub) (Sf.E.var 4) (Sf.E.cint 1))), Sf.S.asg 19 (Sf.E.and (Sf.E.var 19) (Sf.E.one (Sf.E.cmp (Sf.COp.notin) (Sf.E.cbl true) (Sf.E.slc (Sf.E.var 21) (some (Sf.E.bin (Sf.BOp.add) (Sf.E.var 22) (Sf.E.cint 1))) none)))), Sf.S.ite (Sf.E.not (Sf.E.call 11 [Sf.E.call 3 [Sf.E.bi (Sf.Bi.tuple) (Sf.E.var 9), Sf.E.var 18, Sf.E.sub (Sf.E.var 6) (Sf.E.var 20)] [], Sf.E.var 22] [])) [Sf.S.ret (Sf.E.cbl false)] []], Sf.S.ite (Sf.E.not (Sf.E.call 11 [Sf.E.call 3 [Sf.E.bi (Sf.Bi.tuple) (Sf.E.var 9), Sf.E.var 18, Sf.E.sub (Sf.E.var 6) (Sf.E.neg (Sf.E.cint 1))] [], Sf.E.var 22] [])) [Sf.S.ret (Sf.E.cbl false)] [], Sf.S.ite (Sf.E.or (Sf.E.not (Sf.E.call 11 [Sf.E.call 6 [Sf.E.bi (Sf.Bi.tuple) (Sf.E.var 9)] [], Sf.E.var 19] [])) (Sf.E.one (Sf.E.not (Sf.E.call 11 [Sf.E.call 6 [Sf.E.bi (Sf.Bi.tuple) (Sf.E.var 9)] [], Sf.E.var 19] [])))) [Sf.S.ret (Sf.E.cbl false)] []]
def law_2 : S := Sf.S.ret (Sf.E.cbl true)
theorem law_is : f_law.body = [law_0, law_1, law_2] := rfl
end K84
end
section
set_option maxRecDepth 100000
set_option linter.all false
/-! kinds of nodes -/
namespace K84
open Sf
theorem q_End_end : (sEnd = [101, 110, 100]) = True := by simp [sEnd]
theorem q_End_look : (sEnd = [108, 111, 111, 107]) = False := by simp [sEnd]
theorem q_End_block : (sEnd = [98, 108, 111, 99, 107]) = False := by simp [sEnd]
theorem q_End_draw : (sEnd = [100, 114, 97, 119]) = False := by simp [sEnd]
theorem q_End_tell : (sEnd = [116, 101, 108, 108]) = False := by simp [sEnd]
theorem q_End_choose : (sEnd = [99, 104, 111, 111, 115, 101]) = False := by simp [sEnd]
theorem q_Look_end : (sLook = [101, 110, 100]) = False := by simp [sLook]
theorem q_Look_look : (sLook = [108, 111, 111, 107]) = True := by simp [sLook]
theorem q_Look_block : (sLook = [98, 108, 111, 99, 107]) = False := by simp [sLook]
theorem q_Look_draw : (sLook = [100, 114, 97, 119]) = False := by simp [sLook]
theorem q_Look_tell : (sLook = [116, 101, 108, 108]) = False := by simp [sLook]
theorem q_Look_choose : (sLook = [99, 104, 111, 111, 115, 101]) = False := by simp [sLook]
theorem q_Block_end : (sBlock = [101, 110, 100]) = False := by simp [sBlock]
theorem q_Block_look : (sBlock = [108, 111, 111, 107]) = False := by simp [sBlock]
theorem q_Block_block : (sBlock = [98, 108, 111, 99, 107]) = True := by simp [sBlock]
theorem q_Block_draw : (sBlock = [100, 114, 97, 119]) = False := by simp [sBlock]
theorem q_Block_tell : (sBlock = [116, 101, 108, 108]) = False := by simp [sBlock]
theorem q_Block_choose : (sBlock = [99, 104, 111, 111, 115, 101]) = False := by simp [sBlock]
theorem q_Draw_end : (sDraw = [101, 110, 100]) = False := by simp [sDraw]
theorem q_Draw_look : (sDraw = [108, 111, 111, 107]) = False := by simp [sDraw]
theorem q_Draw_block : (sDraw = [98, 108, 111, 99, 107]) = False := by simp [sDraw]
theorem q_Draw_draw : (sDraw = [100, 114, 97, 119]) = True := by simp [sDraw]
theorem q_Draw_tell : (sDraw = [116, 101, 108, 108]) = False := by simp [sDraw]
theorem q_Draw_choose : (sDraw = [99, 104, 111, 111, 115, 101]) = False := by simp [sDraw]
theorem q_Tell_end : (sTell = [101, 110, 100]) = False := by simp [sTell]
theorem q_Tell_look : (sTell = [108, 111, 111, 107]) = False := by simp [sTell]
theorem q_Tell_block : (sTell = [98, 108, 111, 99, 107]) = False := by simp [sTell]
theorem q_Tell_draw : (sTell = [100, 114, 97, 119]) = False := by simp [sTell]
theorem q_Tell_tell : (sTell = [116, 101, 108, 108]) = True := by simp [sTell]
theorem q_Tell_choose : (sTell = [99, 104, 111, 111, 115, 101]) = False := by simp [sTell]
theorem cut_2 (a b : D) (cs : List D) : cut (a :: b :: cs) (some 2) none = cs := by
  show ((a :: b :: cs).drop (six (cs.length + 1 + 1) 0 (some 2))).take (six (cs.length + 1 + 1) (cs.length + 1 + 1) none - six (cs.length + 1 + 1) 0 (some 2)) = cs
  have : six (cs.length + 1 + 1) 0 (some 2) = 2 := by
    simp only [six]; rw [if_neg (by decide)]; omega
  rw [this]
  show cs.take (cs.length + 1 + 1 - 2) = cs
  exact List.take_of_length_le (by omega)
theorem cut_t2 (a b : D) (cs : List D) : cut (a :: b :: cs) none (some 2) = [a, b] := by
  show ((a :: b :: cs).drop 0).take (six (cs.length + 1 + 1) (cs.length + 1 + 1) (some 2) - 0) = [a, b]
  have : six (cs.length + 1 + 1) (cs.length + 1 + 1) (some 2) = 2 := by
    simp only [six]; rw [if_neg (by decide)]; omega
  rw [this]
  rfl
theorem cut_t3 (a b c : D) (cs : List D) : cut (a :: b :: c :: cs) none (some 3) = [a, b, c] := by
  show ((a :: b :: c :: cs).drop 0).take (six (cs.length + 1 + 1 + 1) (cs.length + 1 + 1 + 1) (some 3) - 0) = [a, b, c]
  have : six (cs.length + 1 + 1 + 1) (cs.length + 1 + 1 + 1) (some 3) = 3 := by
    simp only [six]; rw [if_neg (by decide)]; omega
  rw [this]
  rfl
end K84
end
section
set_option maxRecDepth 100000
set_option linter.all false
/-! K84M6: shuffles. -/
namespace K84
open Sf
def sh_elt : E := Sf.E.pop1 2 (Sf.E.call 8 [Sf.E.var 0, Sf.E.bi (Sf.Bi.len) (Sf.E.var 2)] [])
def sh_comp : E := Sf.E.comp sh_elt (Sf.T.nm 3) (Sf.E.rng1 (Sf.E.bi (Sf.Bi.len) (Sf.E.var 2))) [] [3]
theorem sh_is : f_law_shuffled = { np := 2, nn := 4, io := some 0, body := [Sf.S.asg 2 (Sf.E.bi (Sf.Bi.list) (Sf.E.var 1)), Sf.S.ret sh_comp] } := rfl
theorem erase_map {α β : Type} (f : α → β) : ∀ (l : List α) (j : Nat), (l.map f).eraseIdx j = (l.eraseIdx j).map f
  | [], _ => rfl
  | _ :: _, 0 => rfl
  | _ :: l, j + 1 => congrArg (_ :: ·) (erase_map f l j)
theorem sh_loop (k : Nat) (w : D) : ∀ (n : Nat) (lo : Int) (p : List D) (left zs : List Int) (q : Option D), Pl p → left.length = n → n < 1000 → ∃ (us : List Int) (p' : List D) (q' : Option D) (r' : Env), Pl p' ∧ us.length = n ∧
    compL [3] (cF (sigOf tab) (callN tab (k + 1)) sh_elt (.nm 3) []) (rngq lo 1 n) [some (.lst true p), some w, some (.lst true (left.map .int)), q] = .ok (us.map .int) [some (.lst true p'), some w, some (.lst true []), q']
  | 0, lo, p, left, zs, q, hp, hl, hn => by
    have : left = [] := List.length_eq_zero_iff.mp hl
    subst this
    exact ⟨[], p, q, [], hp, rfl, rfl⟩
  | n + 1, lo, p, left, zs, q, hp, hl, hn => by
    obtain ⟨v, p1, e1, h1, h2, hp1⟩ := draw k hp (m := (left.length : Int)) (by omega) (by omega)
    obtain ⟨j, rfl⟩ : ∃ j : Nat, v = (j : Int) := ⟨v.toNat, by omega⟩
    have hj : j < left.length := by omega
    obtain ⟨us, p', q', r', h3, h4, h5⟩ := sh_loop k w n (lo + 1) p1 (left.eraseIdx j) zs (some (.int lo)) hp1 (by rw [List.length_eraseIdx_of_lt hj]; omega) (by omega)
    refine ⟨left[j] :: us, p', q', [], h3, by simp [h4], ?_⟩
    rw [rngq_succ]
    have hix : ixq left.length (j : Int) = some j := ixq_nat hj
    have hme : (left.map D.int).eraseIdx j = (left.eraseIdx j).map D.int := erase_map _ _ _
    have e2 : cF (sigOf tab) (callN tab (k + 1)) sh_elt (.nm 3) [] (.int lo) (wipeE [some (.lst true p), some w, some (.lst true (left.map .int)), q] [3]) = .ok (some (.int left[j])) [some (.lst true p1), some w, some (.lst true ((left.eraseIdx j).map .int)), some (.int lo)] := by
      simp [cF, sh_elt, wipeE, bindT, ev3, ev3s, evs, evz, evts, evc, callArgs, perm, giveBack, Md.mk', Md.z, Md.p, peek, putE, has, hasL, E.slot?, E.simple, varV, e1, hix, hj, hme]
    show (cF (sigOf tab) (callN tab (k + 1)) sh_elt (.nm 3) [] (.int lo) (wipeE _ [3])).bnd _ = _
    rw [e2]
    show (compL [3] _ _ _).bnd _ = _
    rw [h5]
    rfl
theorem sh_body (sg : Sig) (C : Calls) (sr : S) (p L M p' : List D) (hc : ex sg C sr [some (.lst true p), some (.lst false L), some (.lst true L), none] = .rt (.lst true M) [some (.lst true p'), some (.lst false L), some (.lst true []), none]) :
    runF sg C { np := 2, nn := 4, io := some 0, body := [Sf.S.asg 2 (Sf.E.bi (Sf.Bi.list) (Sf.E.var 1)), sr] } [.lst true p, .lst false L] = .ok (.lst true M) [some (.lst true p'), none] := by
  have h1 : ex sg C (Sf.S.asg 2 (Sf.E.bi (Sf.Bi.list) (Sf.E.var 1))) [some (.lst true p), some (.lst false L), none, none] = .nx [some (.lst true p), some (.lst false L), some (.lst true L), none] := rfl
  simp [runF, exs, h1, hc, finE, peek, List.range, List.range.loop]
theorem ex_ret {sg : Sig} {C : Calls} {e : E} {r r' : Env} {d : D} (h : (ev3 sg C e).v r = .ok d r') : ex sg C (.ret e) r = .rt d r' := by
  show ((ev3 sg C e).v r).fin (fun d r => .rt d r) = _
  rw [h]; rfl
theorem small_len {n : Nat} (h : n < 1000) : small (n : Int) = true := by
  unfold small
  have h1 : -(2 ^ 40) < (n : Int) := by omega
  have h2 : (n : Int) < 2 ^ 40 := by omega
  rw [decide_eq_true h1, decide_eq_true h2]; rfl
theorem rng_len {n : Nat} (h : n < 1000) : rng2q 0 (n : Int) = some (rngq 0 1 n) := by
  unfold rng2q
  have e1 : small 0 = true := by decide
  have e3 : ((n : Int) - 0).toNat = n := by omega
  have e4 : n ≤ SZ := Nat.le_trans (Nat.le_of_lt h) (by decide)
  rw [e3]
  simp [e1, small_len h, e4]
end K84
end
section
set_option maxRecDepth 100000
set_option linter.all false
namespace K84
open Sf
local macro_rules
  | `(tactic| trivial) => `(tactic| simp only [WO_some, WO_none, ↓WO_map, ↓WO_bind, WO_iteN, ↓W_ok, ↓W_bad, ↓W_lift, ↓W_bnd, W_iteBad, W_ite, ↓WS_nx, ↓WS_rt, ↓WS_bk, ↓WS_ct, ↓WS_bad, ↓WS_fin, WS_iteBad, WS_ite, W_ok, W_bad, W_lift, W_bnd,
    ↓w_z, w_pS, w_pN, ↓w_varV, ↓w_var, ↓w_cint, ↓w_cbl, ↓w_cnon, ↓w_cstr, ↓w_bin, ↓w_neg, ↓w_cmp, ↓w_chn, ↓w_not, ↓w_and, ↓w_or, ↓w_one, ↓w_ifx, ↓w_tup, ↓w_lst, ↓w_dic0, ↓w_subV, ↓w_subN, ↓w_slcV, ↓w_slcN, ↓w_call, ↓w_bi, ↓w_bi2, ↓w_isi, ↓w_comp, ↓w_anyA, ↓w_pop0, ↓w_pop1, ↓w_index, ↓w_lrng, ↓w_rng1, ↓w_rng2, ↓w_rng3, ↓w_enm, ↓w_zip, ↓w_iV, ↓w_i_sub, ↓w_i_slc, ↓w_i_call, ↓w_i_tup, ↓w_i_comp,
    w_evs0, w_evs, w_evz0, w_evz, w_evc0, w_evc, ↓w_evo0, w_evo0, w_evo, ↓w_tV, ↓w_tcbl, ↓w_tnot, ↓w_tand, ↓w_tor, ↓w_tone, ↓w_t_cmp, ↓w_t_chn, ↓w_t_call, ↓w_t_sub, ↓w_t_isi, ↓w_t_bi, ↓w_t_bin, w_evts0, w_evts,
    s_nil, s_cons, o_none, o_some, ca_none, ca_some, pm_nil, pm_none, pl_nil, pl_cons, gb_none, gb_some, ↓w_has, isL_some, ↓w_hasL, ↓x_asg, ↓x_asgT, ↓x_par, ↓x_aug, setD_L, ↓x_setx, appD_L, ↓x_app, ↓x_expr, ↓x_ret, ↓x_retN, ↓x_ite, ↓x_whl, ↓x_for, ↓x_brk, ↓x_cnt, ↓x_pass, ↓WS_nil, ↓WS_cons, ↓WS_fF, ↓W_cF,
    bt_nm, bt_tp, pu_nil, pu_cons, pk_z, pk_s, pt_z, pt_s, oz_nil, oz_cons, zq_none, zq_some, wp_nil, wp_cons, bk_nil, bk_cons, fe_none, fe_0, fe_1, jn_some, mv_L, mv_D, mv_non, mv_bl, mv_int, mv_str, mv_tup, mv_F, mv_scr, mv_z,
    slot_var, slot_bad, slot_cint, slot_cbl, slot_cnon, slot_cstr, slot_bin, slot_neg, slot_cmp, slot_chn, slot_not, slot_and, slot_or, slot_ifx, slot_one, slot_tup, slot_lst, slot_sub, slot_slc, slot_call, slot_bi, slot_bi2, slot_isi, slot_comp, slot_lrng, slot_pop0, slot_pop1, slot_index, simple_var, simple_cint, simple_cbl, simple_cnon, simple_cstr, simple_bin, simple_neg, simple_sub, simple_slc, simple_call, simple_bi, simple_bi2, simple_isi, simple_lst, simple_tup, simple_comp, popD, popI, augop, iteq, itemsq, itemsp, List.getElem?_cons_zero, List.getElem?_cons_succ, List.set_cons_zero, List.set_cons_succ, List.replicate_succ, List.replicate_zero, List.map_cons, List.map_nil, List.cons_append, List.nil_append, List.length_cons, List.length_nil,
    Option.bind_some, Option.bind_none, Option.map_some, Option.map_none, Option.join_some, Option.toList_some, Option.toList_none, id_eq,
    frz_non, frz_bl, frz_int, frz_str, frz_tup, frz_lst, frz_dic, frz_scr, isZ_non, isZ_bl, isZ_int, isZ_str, isZ_tup, isZ_lstT, isZ_lstF, isZ_scr, tru_non, tru_bl, tru_int, tru_tup, tru_lst, asInt_int,
    c_eqI, c_neI, c_eqS, c_eqT, c_ltI, c_leI, c_gtI, c_geI, b_addI, b_subI, b_mulI, b_fdivI, b_modI, b_addL, b_addT, b_addS, b_mulL, sl_L, sl_T, bi_lenT, bi_lenL, bi_lenS, bi_absI, bi_intI, bi_listT, bi_listL, bi_listS, bi_tupT, bi_tupL, idx_T, idx_L, atq_0, atq_1, atq_2, atq_3, ixq_0, ixq_1, ixq_2,
    Nat.reduceSub, Nat.reduceAdd, Nat.reduceEqDiff, Int.reduceNeg, Int.reduceAdd, Int.reduceSub, Int.reduceMul, Int.reduceLT, Int.reduceLE, Option.some.injEq, Nat.reduceLeDiff, Nat.zero_add, List.isEmpty_cons, List.isEmpty_nil,
    if_true, if_false, ite_true, ite_false, ↓reduceIte, decide_eq_true_eq, beq_iff_eq, bne_iff_ne, ne_eq, Bool.not_eq_true', Bool.not_eq_eq_eq_not, Bool.and_true, Bool.true_and, Bool.false_and, Bool.not_true, Bool.not_false, Bool.false_eq_true, reduceCtorEq, and_true, true_and, and_self, bltg, isiq,
    f_is_number, f_nexts_of, f_walk, f_lower, f_hopes, f_follows, f_nested, f_law_pool, f_law_draw, f_law_pick, f_law_shuffled, f_law_same, f_law_fraction, f_law_chance, f_law_tree, f_law_nodes, f_law_plan, f_law_names, f_law_bare, f_law_ends, f_law_with_tells, f_law_marks, f_law,
    sig_0, sig_1, sig_2, sig_3, sig_4, sig_5, sig_6, sig_7, sig_8, sig_9, sig_10, sig_11, sig_12, sig_13, sig_14, sig_15, sig_16, sig_17, sig_18, sig_19, sig_20, sig_21, sig_22])
  | `(tactic| exists $es:term,*) => `(tactic| simp only [WO_some, WO_none, ↓WO_map, ↓WO_bind, WO_iteN, ↓W_ok, ↓W_bad, ↓W_lift, ↓W_bnd, W_iteBad, W_ite, ↓WS_nx, ↓WS_rt, ↓WS_bk, ↓WS_ct, ↓WS_bad, ↓WS_fin, WS_iteBad, WS_ite, W_ok, W_bad, W_lift, W_bnd,
    ↓w_z, w_pS, w_pN, ↓w_varV, ↓w_var, ↓w_cint, ↓w_cbl, ↓w_cnon, ↓w_cstr, ↓w_bin, ↓w_neg, ↓w_cmp, ↓w_chn, ↓w_not, ↓w_and, ↓w_or, ↓w_one, ↓w_ifx, ↓w_tup, ↓w_lst, ↓w_dic0, ↓w_subV, ↓w_subN, ↓w_slcV, ↓w_slcN, ↓w_call, ↓w_bi, ↓w_bi2, ↓w_isi, ↓w_comp, ↓w_anyA, ↓w_pop0, ↓w_pop1, ↓w_index, ↓w_lrng, ↓w_rng1, ↓w_rng2, ↓w_rng3, ↓w_enm, ↓w_zip, ↓w_iV, ↓w_i_sub, ↓w_i_slc, ↓w_i_call, ↓w_i_tup, ↓w_i_comp,
    w_evs0, w_evs, w_evz0, w_evz, w_evc0, w_evc, ↓w_evo0, w_evo0, w_evo, ↓w_tV, ↓w_tcbl, ↓w_tnot, ↓w_tand, ↓w_tor, ↓w_tone, ↓w_t_cmp, ↓w_t_chn, ↓w_t_call, ↓w_t_sub, ↓w_t_isi, ↓w_t_bi, ↓w_t_bin, w_evts0, w_evts,
    s_nil, s_cons, o_none, o_some, ca_none, ca_some, pm_nil, pm_none, pl_nil, pl_cons, gb_none, gb_some, ↓w_has, isL_some, ↓w_hasL, ↓x_asg, ↓x_asgT, ↓x_par, ↓x_aug, setD_L, ↓x_setx, appD_L, ↓x_app, ↓x_expr, ↓x_ret, ↓x_retN, ↓x_ite, ↓x_whl, ↓x_for, ↓x_brk, ↓x_cnt, ↓x_pass, ↓WS_nil, ↓WS_cons, ↓WS_fF, ↓W_cF,
    bt_nm, bt_tp, pu_nil, pu_cons, pk_z, pk_s, pt_z, pt_s, oz_nil, oz_cons, zq_none, zq_some, wp_nil, wp_cons, bk_nil, bk_cons, fe_none, fe_0, fe_1, jn_some, mv_L, mv_D, mv_non, mv_bl, mv_int, mv_str, mv_tup, mv_F, mv_scr, mv_z,
    slot_var, slot_bad, slot_cint, slot_cbl, slot_cnon, slot_cstr, slot_bin, slot_neg, slot_cmp, slot_chn, slot_not, slot_and, slot_or, slot_ifx, slot_one, slot_tup, slot_lst, slot_sub, slot_slc, slot_call, slot_bi, slot_bi2, slot_isi, slot_comp, slot_lrng, slot_pop0, slot_pop1, slot_index, simple_var, simple_cint, simple_cbl, simple_cnon, simple_cstr, simple_bin, simple_neg, simple_sub, simple_slc, simple_call, simple_bi, simple_bi2, simple_isi, simple_lst, simple_tup, simple_comp, popD, popI, augop, iteq, itemsq, itemsp, List.getElem?_cons_zero, List.getElem?_cons_succ, List.set_cons_zero, List.set_cons_succ, List.replicate_succ, List.replicate_zero, List.map_cons, List.map_nil, List.cons_append, List.nil_append, List.length_cons, List.length_nil,
    Option.bind_some, Option.bind_none, Option.map_some, Option.map_none, Option.join_some, Option.toList_some, Option.toList_none, id_eq,
    frz_non, frz_bl, frz_int, frz_str, frz_tup, frz_lst, frz_dic, frz_scr, isZ_non, isZ_bl, isZ_int, isZ_str, isZ_tup, isZ_lstT, isZ_lstF, isZ_scr, tru_non, tru_bl, tru_int, tru_tup, tru_lst, asInt_int,
    c_eqI, c_neI, c_eqS, c_eqT, c_ltI, c_leI, c_gtI, c_geI, b_addI, b_subI, b_mulI, b_fdivI, b_modI, b_addL, b_addT, b_addS, b_mulL, sl_L, sl_T, bi_lenT, bi_lenL, bi_lenS, bi_absI, bi_intI, bi_listT, bi_listL, bi_listS, bi_tupT, bi_tupL, idx_T, idx_L, atq_0, atq_1, atq_2, atq_3, ixq_0, ixq_1, ixq_2,
    Nat.reduceSub, Nat.reduceAdd, Nat.reduceEqDiff, Int.reduceNeg, Int.reduceAdd, Int.reduceSub, Int.reduceMul, Int.reduceLT, Int.reduceLE, Option.some.injEq, Nat.reduceLeDiff, Nat.zero_add, List.isEmpty_cons, List.isEmpty_nil,
    if_true, if_false, ite_true, ite_false, ↓reduceIte, decide_eq_true_eq, beq_iff_eq, bne_iff_ne, ne_eq, Bool.not_eq_true', Bool.not_eq_eq_eq_not, Bool.and_true, Bool.true_and, Bool.false_and, Bool.not_true, Bool.not_false, Bool.false_eq_true, reduceCtorEq, and_true, true_and, and_self, bltg, isiq,
    f_is_number, f_nexts_of, f_walk, f_lower, f_hopes, f_follows, f_nested, f_law_pool, f_law_draw, f_law_pick, f_law_shuffled, f_law_same, f_law_fraction, f_law_chance, f_law_tree, f_law_nodes, f_law_plan, f_law_names, f_law_bare, f_law_ends, f_law_with_tells, f_law_marks, f_law,
    sig_0, sig_1, sig_2, sig_3, sig_4, sig_5, sig_6, sig_7, sig_8, sig_9, sig_10, sig_11, sig_12, sig_13, sig_14, sig_15, sig_16, sig_17, sig_18, sig_19, sig_20, sig_21, sig_22, $[$es:term],*])
theorem w_shuffled {k : Nat} {p : List D} {ys : List Int} {Q : D → Env → Prop} {X : XC} {t} (hp : Pl p) (hl : ys.length < 1000) (h : ∀ (us : List Int) p', us.length = ys.length → Pl p' → Q (.lst true (us.map .int)) [some (.lst true p'), none]) : W (callN tab (k + 2) 10 [.lst true p, .lst false (ys.map .int)]) Q X t := by
  refine C10 ?_
  trivial
  rw [List.length_map, rng_len hl]
  trivial
  obtain ⟨us, p', q', r', h1, h2, h3⟩ := sh_loop k (.lst false (ys.map .int)) ys.length 0 p ys [] none hp rfl hl
  refine W_of h3 ?_
  trivial
  exact h us p' h2 h1
theorem w_pick {k : Nat} {p xs : List D} {Q : D → Env → Prop} {X : XC} {t} (hp : Pl p) (hl : 0 < xs.length) (hl2 : xs.length < 1000) (h : ∀ d ∈ xs, ∀ p', Pl p' → Q d [some (.lst true p'), none]) : W (callN tab (k + 2) 9 [.lst true p, .lst false xs]) Q X t := by
  refine C9 ?_
  trivial
  refine w_draw hp (by omega) (by omega) fun v p1 h1 h2 hp1 => ?_
  trivial
  obtain ⟨j, rfl⟩ : ∃ j : Nat, v = (j : Int) := ⟨v.toNat, by omega⟩
  have hj : j < xs.length := by omega
  rw [atq_nat, List.getElem?_eq_getElem hj]
  trivial
  exact h _ (List.getElem_mem hj) p1 hp1
end K84
end
section
set_option maxRecDepth 100000
set_option linter.all false
namespace K84
open Sf
local macro_rules
  | `(tactic| trivial) => `(tactic| simp only [WO_some, WO_none, ↓WO_map, ↓WO_bind, WO_iteN, ↓W_ok, ↓W_bad, ↓W_lift, ↓W_bnd, W_iteBad, W_ite, ↓WS_nx, ↓WS_rt, ↓WS_bk, ↓WS_ct, ↓WS_bad, ↓WS_fin, WS_iteBad, WS_ite, W_ok, W_bad, W_lift, W_bnd,
    ↓w_z, w_pS, w_pN, ↓w_varV, ↓w_var, ↓w_cint, ↓w_cbl, ↓w_cnon, ↓w_cstr, ↓w_bin, ↓w_neg, ↓w_cmp, ↓w_chn, ↓w_not, ↓w_and, ↓w_or, ↓w_one, ↓w_ifx, ↓w_tup, ↓w_lst, ↓w_dic0, ↓w_subV, ↓w_subN, ↓w_slcV, ↓w_slcN, ↓w_call, ↓w_bi, ↓w_bi2, ↓w_isi, ↓w_comp, ↓w_anyA, ↓w_pop0, ↓w_pop1, ↓w_index, ↓w_lrng, ↓w_rng1, ↓w_rng2, ↓w_rng3, ↓w_enm, ↓w_zip, ↓w_iV, ↓w_i_sub, ↓w_i_slc, ↓w_i_call, ↓w_i_tup, ↓w_i_comp,
    w_evs0, w_evs, w_evz0, w_evz, w_evc0, w_evc, ↓w_evo0, w_evo0, w_evo, ↓w_tV, ↓w_tcbl, ↓w_tnot, ↓w_tand, ↓w_tor, ↓w_tone, ↓w_t_cmp, ↓w_t_chn, ↓w_t_call, ↓w_t_sub, ↓w_t_isi, ↓w_t_bi, ↓w_t_bin, w_evts0, w_evts,
    s_nil, s_cons, o_none, o_some, ca_none, ca_some, pm_nil, pm_none, pl_nil, pl_cons, gb_none, gb_some, ↓w_has, isL_some, ↓w_hasL, ↓x_asg, ↓x_asgT, ↓x_par, ↓x_aug, setD_L, ↓x_setx, appD_L, ↓x_app, ↓x_expr, ↓x_ret, ↓x_retN, ↓x_ite, ↓x_whl, ↓x_for, ↓x_brk, ↓x_cnt, ↓x_pass, ↓WS_nil, ↓WS_cons, ↓WS_fF, ↓W_cF,
    bt_nm, bt_tp, pu_nil, pu_cons, pk_z, pk_s, pt_z, pt_s, oz_nil, oz_cons, zq_none, zq_some, wp_nil, wp_cons, bk_nil, bk_cons, fe_none, fe_0, fe_1, jn_some, mv_L, mv_D, mv_non, mv_bl, mv_int, mv_str, mv_tup, mv_F, mv_scr, mv_z,
    slot_var, slot_bad, slot_cint, slot_cbl, slot_cnon, slot_cstr, slot_bin, slot_neg, slot_cmp, slot_chn, slot_not, slot_and, slot_or, slot_ifx, slot_one, slot_tup, slot_lst, slot_sub, slot_slc, slot_call, slot_bi, slot_bi2, slot_isi, slot_comp, slot_lrng, slot_pop0, slot_pop1, slot_index, simple_var, simple_cint, simple_cbl, simple_cnon, simple_cstr, simple_bin, simple_neg, simple_sub, simple_slc, simple_call, simple_bi, simple_bi2, simple_isi, simple_lst, simple_tup, simple_comp, popD, popI, augop, iteq, itemsq, itemsp, List.getElem?_cons_zero, List.getElem?_cons_succ, List.set_cons_zero, List.set_cons_succ, List.replicate_succ, List.replicate_zero, List.map_cons, List.map_nil, List.cons_append, List.nil_append, List.length_cons, List.length_nil,
    Option.bind_some, Option.bind_none, Option.map_some, Option.map_none, Option.join_some, Option.toList_some, Option.toList_none, id_eq,
    frz_non, frz_bl, frz_int, frz_str, frz_tup, frz_lst, frz_dic, frz_scr, isZ_non, isZ_bl, isZ_int, isZ_str, isZ_tup, isZ_lstT, isZ_lstF, isZ_scr, tru_non, tru_bl, tru_int, tru_tup, tru_lst, asInt_int,
    c_eqI, c_neI, c_eqS, c_eqT, c_ltI, c_leI, c_gtI, c_geI, b_addI, b_subI, b_mulI, b_fdivI, b_modI, b_addL, b_addT, b_addS, b_mulL, sl_L, sl_T, bi_lenT, bi_lenL, bi_lenS, bi_absI, bi_intI, bi_listT, bi_listL, bi_listS, bi_tupT, bi_tupL, idx_T, idx_L, atq_0, atq_1, atq_2, atq_3, ixq_0, ixq_1, ixq_2,
    Nat.reduceSub, Nat.reduceAdd, Nat.reduceEqDiff, Int.reduceNeg, Int.reduceAdd, Int.reduceSub, Int.reduceMul, Int.reduceLT, Int.reduceLE, Option.some.injEq, Nat.reduceLeDiff, Nat.zero_add, List.isEmpty_cons, List.isEmpty_nil,
    if_true, if_false, ite_true, ite_false, ↓reduceIte, decide_eq_true_eq, beq_iff_eq, bne_iff_ne, ne_eq, Bool.not_eq_true', Bool.not_eq_eq_eq_not, Bool.and_true, Bool.true_and, Bool.false_and, Bool.not_true, Bool.not_false, Bool.false_eq_true, reduceCtorEq, and_true, true_and, and_self, bltg, isiq,
    f_is_number, f_nexts_of, f_walk, f_lower, f_hopes, f_follows, f_nested, f_law_pool, f_law_draw, f_law_pick, f_law_shuffled, f_law_same, f_law_fraction, f_law_chance, f_law_tree, f_law_nodes, f_law_plan, f_law_names, f_law_bare, f_law_ends, f_law_with_tells, f_law_marks, f_law,
    sig_0, sig_1, sig_2, sig_3, sig_4, sig_5, sig_6, sig_7, sig_8, sig_9, sig_10, sig_11, sig_12, sig_13, sig_14, sig_15, sig_16, sig_17, sig_18, sig_19, sig_20, sig_21, sig_22])
  | `(tactic| exists $es:term,*) => `(tactic| simp only [WO_some, WO_none, ↓WO_map, ↓WO_bind, WO_iteN, ↓W_ok, ↓W_bad, ↓W_lift, ↓W_bnd, W_iteBad, W_ite, ↓WS_nx, ↓WS_rt, ↓WS_bk, ↓WS_ct, ↓WS_bad, ↓WS_fin, WS_iteBad, WS_ite, W_ok, W_bad, W_lift, W_bnd,
    ↓w_z, w_pS, w_pN, ↓w_varV, ↓w_var, ↓w_cint, ↓w_cbl, ↓w_cnon, ↓w_cstr, ↓w_bin, ↓w_neg, ↓w_cmp, ↓w_chn, ↓w_not, ↓w_and, ↓w_or, ↓w_one, ↓w_ifx, ↓w_tup, ↓w_lst, ↓w_dic0, ↓w_subV, ↓w_subN, ↓w_slcV, ↓w_slcN, ↓w_call, ↓w_bi, ↓w_bi2, ↓w_isi, ↓w_comp, ↓w_anyA, ↓w_pop0, ↓w_pop1, ↓w_index, ↓w_lrng, ↓w_rng1, ↓w_rng2, ↓w_rng3, ↓w_enm, ↓w_zip, ↓w_iV, ↓w_i_sub, ↓w_i_slc, ↓w_i_call, ↓w_i_tup, ↓w_i_comp,
    w_evs0, w_evs, w_evz0, w_evz, w_evc0, w_evc, ↓w_evo0, w_evo0, w_evo, ↓w_tV, ↓w_tcbl, ↓w_tnot, ↓w_tand, ↓w_tor, ↓w_tone, ↓w_t_cmp, ↓w_t_chn, ↓w_t_call, ↓w_t_sub, ↓w_t_isi, ↓w_t_bi, ↓w_t_bin, w_evts0, w_evts,
    s_nil, s_cons, o_none, o_some, ca_none, ca_some, pm_nil, pm_none, pl_nil, pl_cons, gb_none, gb_some, ↓w_has, isL_some, ↓w_hasL, ↓x_asg, ↓x_asgT, ↓x_par, ↓x_aug, setD_L, ↓x_setx, appD_L, ↓x_app, ↓x_expr, ↓x_ret, ↓x_retN, ↓x_ite, ↓x_whl, ↓x_for, ↓x_brk, ↓x_cnt, ↓x_pass, ↓WS_nil, ↓WS_cons, ↓WS_fF, ↓W_cF,
    bt_nm, bt_tp, pu_nil, pu_cons, pk_z, pk_s, pt_z, pt_s, oz_nil, oz_cons, zq_none, zq_some, wp_nil, wp_cons, bk_nil, bk_cons, fe_none, fe_0, fe_1, jn_some, mv_L, mv_D, mv_non, mv_bl, mv_int, mv_str, mv_tup, mv_F, mv_scr, mv_z,
    slot_var, slot_bad, slot_cint, slot_cbl, slot_cnon, slot_cstr, slot_bin, slot_neg, slot_cmp, slot_chn, slot_not, slot_and, slot_or, slot_ifx, slot_one, slot_tup, slot_lst, slot_sub, slot_slc, slot_call, slot_bi, slot_bi2, slot_isi, slot_comp, slot_lrng, slot_pop0, slot_pop1, slot_index, simple_var, simple_cint, simple_cbl, simple_cnon, simple_cstr, simple_bin, simple_neg, simple_sub, simple_slc, simple_call, simple_bi, simple_bi2, simple_isi, simple_lst, simple_tup, simple_comp, popD, popI, augop, iteq, itemsq, itemsp, List.getElem?_cons_zero, List.getElem?_cons_succ, List.set_cons_zero, List.set_cons_succ, List.replicate_succ, List.replicate_zero, List.map_cons, List.map_nil, List.cons_append, List.nil_append, List.length_cons, List.length_nil,
    Option.bind_some, Option.bind_none, Option.map_some, Option.map_none, Option.join_some, Option.toList_some, Option.toList_none, id_eq,
    frz_non, frz_bl, frz_int, frz_str, frz_tup, frz_lst, frz_dic, frz_scr, isZ_non, isZ_bl, isZ_int, isZ_str, isZ_tup, isZ_lstT, isZ_lstF, isZ_scr, tru_non, tru_bl, tru_int, tru_tup, tru_lst, asInt_int,
    c_eqI, c_neI, c_eqS, c_eqT, c_ltI, c_leI, c_gtI, c_geI, b_addI, b_subI, b_mulI, b_fdivI, b_modI, b_addL, b_addT, b_addS, b_mulL, sl_L, sl_T, bi_lenT, bi_lenL, bi_lenS, bi_absI, bi_intI, bi_listT, bi_listL, bi_listS, bi_tupT, bi_tupL, idx_T, idx_L, atq_0, atq_1, atq_2, atq_3, ixq_0, ixq_1, ixq_2,
    Nat.reduceSub, Nat.reduceAdd, Nat.reduceEqDiff, Int.reduceNeg, Int.reduceAdd, Int.reduceSub, Int.reduceMul, Int.reduceLT, Int.reduceLE, Option.some.injEq, Nat.reduceLeDiff, Nat.zero_add, List.isEmpty_cons, List.isEmpty_nil,
    if_true, if_false, ite_true, ite_false, ↓reduceIte, decide_eq_true_eq, beq_iff_eq, bne_iff_ne, ne_eq, Bool.not_eq_true', Bool.not_eq_eq_eq_not, Bool.and_true, Bool.true_and, Bool.false_and, Bool.not_true, Bool.not_false, Bool.false_eq_true, reduceCtorEq, and_true, true_and, and_self, bltg, isiq,
    f_is_number, f_nexts_of, f_walk, f_lower, f_hopes, f_follows, f_nested, f_law_pool, f_law_draw, f_law_pick, f_law_shuffled, f_law_same, f_law_fraction, f_law_chance, f_law_tree, f_law_nodes, f_law_plan, f_law_names, f_law_bare, f_law_ends, f_law_with_tells, f_law_marks, f_law,
    sig_0, sig_1, sig_2, sig_3, sig_4, sig_5, sig_6, sig_7, sig_8, sig_9, sig_10, sig_11, sig_12, sig_13, sig_14, sig_15, sig_16, sig_17, sig_18, sig_19, sig_20, sig_21, sig_22, $[$es:term],*])
theorem small0 : small 0 = true := by decide
theorem rngq_zero (lo : Int) : rngq lo 1 0 = [] := rfl
/-- a short text -/
def Sh (d : D) : Prop := ∃ s : List Nat, d = .str s ∧ s.length ≤ 8
theorem sh_flat {xs : List D} (h : ∀ d ∈ xs, Sh d) : xs.all D.flat = true := by
  rw [List.all_eq_true]
  intro d hd
  obtain ⟨s, rfl, _⟩ := h d hd
  rfl
theorem isin_L (s : List Nat) (o : Bool) (xs : List D) (h : xs.all D.flat = true) : cmpop .isin (.str s) (.lst o xs) = some (hasD (.str s) xs) := by
  show (if (D.str s).flat && xs.all D.flat then some (hasD (.str s) xs) else none) = _
  rw [h]; rfl
theorem slq_S (s : List Nat) (lo hi : Option Int) (h : s.length ≤ 8) : slq (.str s) lo hi = some (.str (cut s lo hi)) := by
  show (if s.length ≤ SZ then some (D.str (cut s lo hi)) else none) = _
  rw [if_pos (Nat.le_trans h (by decide))]
theorem str_I (i : Int) (h : 0 ≤ i) (h2 : i < 1000) : bltf .str (.int i) = some (.str (digs i)) := by
  show (if i.natAbs.log2 < 1920 then some (D.str (digs i)) else none) = _
  rw [if_pos]
  have : i.natAbs.log2 < 10 := by
    by_cases h0 : i.natAbs = 0
    · rw [h0]; decide
    · rw [Nat.log2_lt h0]; omega
  omega
def Tx (d : D) : Prop := ∃ s : List Nat, d = .str s ∧ s.length ≤ SZ
theorem tx_flat {xs : List D} (h : ∀ d ∈ xs, ∃ s : List Nat, d = .str s) : xs.all D.flat = true := by
  rw [List.all_eq_true]
  intro d hd
  obtain ⟨s, rfl⟩ := h d hd
  rfl
theorem digs_len (i : Int) (h : 0 ≤ i) (h2 : i < 10) : (digs i).length = 1 := by
  obtain ⟨n, rfl⟩ : ∃ n : Nat, i = n := ⟨i.toNat, by omega⟩
  have : n < 10 := by omega
  match n, this with
  | 0, _ => decide
  | 1, _ => decide
  | 2, _ => decide
  | 3, _ => decide
  | 4, _ => decide
  | 5, _ => decide
  | 6, _ => decide
  | 7, _ => decide
  | 8, _ => decide
  | 9, _ => decide
def I17 (Pl : List D → Prop) (n : Nat) (lo : Int) (j : Nat) (r : Env) : Prop := ∃ (p' found : List D) (q q2 : Option D), Pl p' ∧ 0 ≤ lo ∧ lo + j < 10 ∧ found.length + j < 10 ∧ (∀ d ∈ found, ∃ s : List Nat, d = .str s) ∧ r = [some (.lst true p'), some (.int n), some (.lst true found), q, q2]
theorem w_names {k : Nat} {p : List D} {n : Nat} {Q : D → Env → Prop} {X : XC} {t} (hp : Pl p) (hl : n < 10) (h : ∀ d p', Pl p' → Q (.tup d) [some (.lst true p'), none]) : W (callN tab (k + 3) 17 [.lst true p, .int n]) Q X t := by
  refine C17 ?_
  trivial
  refine ⟨by decide, ?_⟩
  rw [rng_len (by omega)]
  trivial
  refine forW (fun xs r => ∃ (lo : Int) (j : Nat), xs = rngq lo 1 j ∧ I17 Pl n lo j r)
    ⟨0, n, rfl, p, [], none, none, hp, by omega, by omega, by simpa using hl, by simp, rfl⟩ ?_ ?_
  · rintro x xs r ⟨lo, j, h5, p', found, q, q2, hp', h1, h2, h3, h4, rfl⟩
    cases j with
    | zero => rw [rngq_zero] at h5; cases h5
    | succ j =>
      rw [rngq_succ] at h5
      obtain ⟨rfl, rfl⟩ := List.cons.inj h5
      trivial
      refine ⟨by decide, ?_⟩
      refine w_pick hp' (by decide) (by decide) fun d hd p1 hp1 => ?_
      have hd : Sh d := by
        simp only [List.mem_cons, List.not_mem_nil, or_false] at hd
        rcases hd with rfl | rfl | rfl | rfl | rfl | rfl | rfl | rfl | rfl | rfl | rfl | rfl <;> exact ⟨_, rfl, by decide⟩
      obtain ⟨s, rfl, hs⟩ := hd
      trivial
      rw [isin_L _ _ _ (tx_flat h4)]
      trivial
      have fin : ∀ s' : List Nat, I17 Pl n (lo := lo + 1) j [some (.lst true p1), some (.int n), some (.lst true (found ++ [.str s'])), some (.int lo), some (.str s)] := by
        intro s'
        exact ⟨p1, _, _, _, hp1, by omega, by omega, by rw [List.length_append]; simp only [List.length_cons, List.length_nil]; omega, by intro d hd; rcases List.mem_append.mp hd with hd | hd; exact h4 d hd; exact ⟨s', by simpa using hd⟩, rfl⟩
      have e0 : found.length < SZ := Nat.lt_trans (show found.length < 10 by omega) (by decide)
      by_cases hc : hasD (.str s) found = true
      · have e1 := slq_S s none (some 4) hs
        have e2 := str_I lo h1 (by omega)
        have h6 : (cut s none (some 4)).length ≤ s.length := by
          unfold cut; rw [List.length_take, List.length_drop]; omega
        have e3 : (cut s none (some 4)).length + 1 ≤ SZ := Nat.le_trans (show _ ≤ 9 by omega) (by decide)
        have e4 : (cut s none (some 4)).length + 1 + 1 ≤ SZ := Nat.le_trans (show _ ≤ 10 by omega) (by decide)
        exists hc, e1, e2, e3, e4, e0, List.length_append, digs_len lo h1 (by omega)
        exact ⟨_, _, rfl, fin _⟩
      · exists hc, e0
        exact ⟨_, _, rfl, fin _⟩
  · rintro r ⟨lo, j, h0, p', found, q, q2, hp', h1, h2, h3, h4, rfl⟩
    trivial
    exact h _ _ hp'
end K84
end
section
set_option maxRecDepth 100000
set_option linter.all false
namespace K84
open Sf
local macro_rules
  | `(tactic| trivial) => `(tactic| simp only [WO_some, WO_none, ↓WO_map, ↓WO_bind, WO_iteN, ↓W_ok, ↓W_bad, ↓W_lift, ↓W_bnd, W_iteBad, W_ite, ↓WS_nx, ↓WS_rt, ↓WS_bk, ↓WS_ct, ↓WS_bad, ↓WS_fin, WS_iteBad, WS_ite, W_ok, W_bad, W_lift, W_bnd,
    ↓w_z, w_pS, w_pN, ↓w_varV, ↓w_var, ↓w_cint, ↓w_cbl, ↓w_cnon, ↓w_cstr, ↓w_bin, ↓w_neg, ↓w_cmp, ↓w_chn, ↓w_not, ↓w_and, ↓w_or, ↓w_one, ↓w_ifx, ↓w_tup, ↓w_lst, ↓w_dic0, ↓w_subV, ↓w_subN, ↓w_slcV, ↓w_slcN, ↓w_call, ↓w_bi, ↓w_bi2, ↓w_isi, ↓w_comp, ↓w_anyA, ↓w_pop0, ↓w_pop1, ↓w_index, ↓w_lrng, ↓w_rng1, ↓w_rng2, ↓w_rng3, ↓w_enm, ↓w_zip, ↓w_iV, ↓w_i_sub, ↓w_i_slc, ↓w_i_call, ↓w_i_tup, ↓w_i_comp,
    w_evs0, w_evs, w_evz0, w_evz, w_evc0, w_evc, ↓w_evo0, w_evo0, w_evo, ↓w_tV, ↓w_tcbl, ↓w_tnot, ↓w_tand, ↓w_tor, ↓w_tone, ↓w_t_cmp, ↓w_t_chn, ↓w_t_call, ↓w_t_sub, ↓w_t_isi, ↓w_t_bi, ↓w_t_bin, w_evts0, w_evts,
    s_nil, s_cons, o_none, o_some, ca_none, ca_some, pm_nil, pm_none, pl_nil, pl_cons, gb_none, gb_some, ↓w_has, isL_some, ↓w_hasL, ↓x_asg, ↓x_asgT, ↓x_par, ↓x_aug, setD_L, ↓x_setx, appD_L, ↓x_app, ↓x_expr, ↓x_ret, ↓x_retN, ↓x_ite, ↓x_whl, ↓x_for, ↓x_brk, ↓x_cnt, ↓x_pass, ↓WS_nil, ↓WS_cons, ↓WS_fF, ↓W_cF,
    bt_nm, bt_tp, pu_nil, pu_cons, pk_z, pk_s, pt_z, pt_s, oz_nil, oz_cons, zq_none, zq_some, wp_nil, wp_cons, bk_nil, bk_cons, fe_none, fe_0, fe_1, jn_some, mv_L, mv_D, mv_non, mv_bl, mv_int, mv_str, mv_tup, mv_F, mv_scr, mv_z,
    slot_var, slot_bad, slot_cint, slot_cbl, slot_cnon, slot_cstr, slot_bin, slot_neg, slot_cmp, slot_chn, slot_not, slot_and, slot_or, slot_ifx, slot_one, slot_tup, slot_lst, slot_sub, slot_slc, slot_call, slot_bi, slot_bi2, slot_isi, slot_comp, slot_lrng, slot_pop0, slot_pop1, slot_index, simple_var, simple_cint, simple_cbl, simple_cnon, simple_cstr, simple_bin, simple_neg, simple_sub, simple_slc, simple_call, simple_bi, simple_bi2, simple_isi, simple_lst, simple_tup, simple_comp, popD, popI, augop, iteq, itemsq, itemsp, List.getElem?_cons_zero, List.getElem?_cons_succ, List.set_cons_zero, List.set_cons_succ, List.replicate_succ, List.replicate_zero, List.map_cons, List.map_nil, List.cons_append, List.nil_append, List.length_cons, List.length_nil,
    Option.bind_some, Option.bind_none, Option.map_some, Option.map_none, Option.join_some, Option.toList_some, Option.toList_none, id_eq,
    frz_non, frz_bl, frz_int, frz_str, frz_tup, frz_lst, frz_dic, frz_scr, isZ_non, isZ_bl, isZ_int, isZ_str, isZ_tup, isZ_lstT, isZ_lstF, isZ_scr, tru_non, tru_bl, tru_int, tru_tup, tru_lst, asInt_int,
    c_eqI, c_neI, c_eqS, c_eqT, c_ltI, c_leI, c_gtI, c_geI, b_addI, b_subI, b_mulI, b_fdivI, b_modI, b_addL, b_addT, b_addS, b_mulL, sl_L, sl_T, bi_lenT, bi_lenL, bi_lenS, bi_absI, bi_intI, bi_listT, bi_listL, bi_listS, bi_tupT, bi_tupL, idx_T, idx_L, atq_0, atq_1, atq_2, atq_3, ixq_0, ixq_1, ixq_2,
    Nat.reduceSub, Nat.reduceAdd, Nat.reduceEqDiff, Int.reduceNeg, Int.reduceAdd, Int.reduceSub, Int.reduceMul, Int.reduceLT, Int.reduceLE, Option.some.injEq, Nat.reduceLeDiff, Nat.zero_add, List.isEmpty_cons, List.isEmpty_nil,
    if_true, if_false, ite_true, ite_false, ↓reduceIte, decide_eq_true_eq, beq_iff_eq, bne_iff_ne, ne_eq, Bool.not_eq_true', Bool.not_eq_eq_eq_not, Bool.and_true, Bool.true_and, Bool.false_and, Bool.not_true, Bool.not_false, Bool.false_eq_true, reduceCtorEq, and_true, true_and, and_self, bltg, isiq,
    f_is_number, f_nexts_of, f_walk, f_lower, f_hopes, f_follows, f_nested, f_law_pool, f_law_draw, f_law_pick, f_law_shuffled, f_law_same, f_law_fraction, f_law_chance, f_law_tree, f_law_nodes, f_law_plan, f_law_names, f_law_bare, f_law_ends, f_law_with_tells, f_law_marks, f_law,
    sig_0, sig_1, sig_2, sig_3, sig_4, sig_5, sig_6, sig_7, sig_8, sig_9, sig_10, sig_11, sig_12, sig_13, sig_14, sig_15, sig_16, sig_17, sig_18, sig_19, sig_20, sig_21, sig_22])
  | `(tactic| exists $es:term,*) => `(tactic| simp only [WO_some, WO_none, ↓WO_map, ↓WO_bind, WO_iteN, ↓W_ok, ↓W_bad, ↓W_lift, ↓W_bnd, W_iteBad, W_ite, ↓WS_nx, ↓WS_rt, ↓WS_bk, ↓WS_ct, ↓WS_bad, ↓WS_fin, WS_iteBad, WS_ite, W_ok, W_bad, W_lift, W_bnd,
    ↓w_z, w_pS, w_pN, ↓w_varV, ↓w_var, ↓w_cint, ↓w_cbl, ↓w_cnon, ↓w_cstr, ↓w_bin, ↓w_neg, ↓w_cmp, ↓w_chn, ↓w_not, ↓w_and, ↓w_or, ↓w_one, ↓w_ifx, ↓w_tup, ↓w_lst, ↓w_dic0, ↓w_subV, ↓w_subN, ↓w_slcV, ↓w_slcN, ↓w_call, ↓w_bi, ↓w_bi2, ↓w_isi, ↓w_comp, ↓w_anyA, ↓w_pop0, ↓w_pop1, ↓w_index, ↓w_lrng, ↓w_rng1, ↓w_rng2, ↓w_rng3, ↓w_enm, ↓w_zip, ↓w_iV, ↓w_i_sub, ↓w_i_slc, ↓w_i_call, ↓w_i_tup, ↓w_i_comp,
    w_evs0, w_evs, w_evz0, w_evz, w_evc0, w_evc, ↓w_evo0, w_evo0, w_evo, ↓w_tV, ↓w_tcbl, ↓w_tnot, ↓w_tand, ↓w_tor, ↓w_tone, ↓w_t_cmp, ↓w_t_chn, ↓w_t_call, ↓w_t_sub, ↓w_t_isi, ↓w_t_bi, ↓w_t_bin, w_evts0, w_evts,
    s_nil, s_cons, o_none, o_some, ca_none, ca_some, pm_nil, pm_none, pl_nil, pl_cons, gb_none, gb_some, ↓w_has, isL_some, ↓w_hasL, ↓x_asg, ↓x_asgT, ↓x_par, ↓x_aug, setD_L, ↓x_setx, appD_L, ↓x_app, ↓x_expr, ↓x_ret, ↓x_retN, ↓x_ite, ↓x_whl, ↓x_for, ↓x_brk, ↓x_cnt, ↓x_pass, ↓WS_nil, ↓WS_cons, ↓WS_fF, ↓W_cF,
    bt_nm, bt_tp, pu_nil, pu_cons, pk_z, pk_s, pt_z, pt_s, oz_nil, oz_cons, zq_none, zq_some, wp_nil, wp_cons, bk_nil, bk_cons, fe_none, fe_0, fe_1, jn_some, mv_L, mv_D, mv_non, mv_bl, mv_int, mv_str, mv_tup, mv_F, mv_scr, mv_z,
    slot_var, slot_bad, slot_cint, slot_cbl, slot_cnon, slot_cstr, slot_bin, slot_neg, slot_cmp, slot_chn, slot_not, slot_and, slot_or, slot_ifx, slot_one, slot_tup, slot_lst, slot_sub, slot_slc, slot_call, slot_bi, slot_bi2, slot_isi, slot_comp, slot_lrng, slot_pop0, slot_pop1, slot_index, simple_var, simple_cint, simple_cbl, simple_cnon, simple_cstr, simple_bin, simple_neg, simple_sub, simple_slc, simple_call, simple_bi, simple_bi2, simple_isi, simple_lst, simple_tup, simple_comp, popD, popI, augop, iteq, itemsq, itemsp, List.getElem?_cons_zero, List.getElem?_cons_succ, List.set_cons_zero, List.set_cons_succ, List.replicate_succ, List.replicate_zero, List.map_cons, List.map_nil, List.cons_append, List.nil_append, List.length_cons, List.length_nil,
    Option.bind_some, Option.bind_none, Option.map_some, Option.map_none, Option.join_some, Option.toList_some, Option.toList_none, id_eq,
    frz_non, frz_bl, frz_int, frz_str, frz_tup, frz_lst, frz_dic, frz_scr, isZ_non, isZ_bl, isZ_int, isZ_str, isZ_tup, isZ_lstT, isZ_lstF, isZ_scr, tru_non, tru_bl, tru_int, tru_tup, tru_lst, asInt_int,
    c_eqI, c_neI, c_eqS, c_eqT, c_ltI, c_leI, c_gtI, c_geI, b_addI, b_subI, b_mulI, b_fdivI, b_modI, b_addL, b_addT, b_addS, b_mulL, sl_L, sl_T, bi_lenT, bi_lenL, bi_lenS, bi_absI, bi_intI, bi_listT, bi_listL, bi_listS, bi_tupT, bi_tupL, idx_T, idx_L, atq_0, atq_1, atq_2, atq_3, ixq_0, ixq_1, ixq_2,
    Nat.reduceSub, Nat.reduceAdd, Nat.reduceEqDiff, Int.reduceNeg, Int.reduceAdd, Int.reduceSub, Int.reduceMul, Int.reduceLT, Int.reduceLE, Option.some.injEq, Nat.reduceLeDiff, Nat.zero_add, List.isEmpty_cons, List.isEmpty_nil,
    if_true, if_false, ite_true, ite_false, ↓reduceIte, decide_eq_true_eq, beq_iff_eq, bne_iff_ne, ne_eq, Bool.not_eq_true', Bool.not_eq_eq_eq_not, Bool.and_true, Bool.true_and, Bool.false_and, Bool.not_true, Bool.not_false, Bool.false_eq_true, reduceCtorEq, and_true, true_and, and_self, bltg, isiq,
    f_is_number, f_nexts_of, f_walk, f_lower, f_hopes, f_follows, f_nested, f_law_pool, f_law_draw, f_law_pick, f_law_shuffled, f_law_same, f_law_fraction, f_law_chance, f_law_tree, f_law_nodes, f_law_plan, f_law_names, f_law_bare, f_law_ends, f_law_with_tells, f_law_marks, f_law,
    sig_0, sig_1, sig_2, sig_3, sig_4, sig_5, sig_6, sig_7, sig_8, sig_9, sig_10, sig_11, sig_12, sig_13, sig_14, sig_15, sig_16, sig_17, sig_18, sig_19, sig_20, sig_21, sig_22, $[$es:term],*])
theorem rngq_map (lo c : Int) (n : Nat) : rngq lo c n = ((List.range n).map fun k : Nat => lo + (k : Int) * c).map .int := by
  unfold rngq; rw [List.map_map]; rfl
theorem cut_map {α β : Type} (f : α → β) (xs : List α) (lo hi : Option Int) : cut (xs.map f) lo hi = (cut xs lo hi).map f := by
  unfold cut; rw [List.length_map, List.map_take, List.map_drop]
theorem cut_mem {α : Type} {xs : List α} {lo hi : Option Int} {x : α} (h : x ∈ cut xs lo hi) : x ∈ xs := by
  unfold cut at h; exact List.mem_of_mem_drop (List.mem_of_mem_take h)
theorem intsOf_map : ∀ us : List Int, intsOf (us.map .int) = some us
  | [] => rfl
  | u :: us => by
    show (intsOf (us.map .int)).map (u :: ·) = _
    rw [intsOf_map us]; rfl
theorem mem_insI {i j : Int} : ∀ {xs : List Int}, j ∈ insI i xs → j = i ∨ j ∈ xs
  | [], h => by simp only [insI, List.mem_cons, List.not_mem_nil, or_false] at h; exact .inl h
  | x :: xs, h => by
    unfold insI at h
    split at h
    · simp only [List.mem_cons] at h ⊢; exact h
    · simp only [List.mem_cons] at h ⊢
      rcases h with h | h
      · exact .inr (.inl h)
      · rcases mem_insI h with h | h
        · exact .inl h
        · exact .inr (.inr h)
theorem mem_sortI {j : Int} : ∀ {xs : List Int}, j ∈ sortI xs → j ∈ xs
  | [], h => h
  | x :: xs, h => by
    rcases mem_insI (show j ∈ insI x (sortI xs) from h) with h | h
    · simp [h]
    · simp [mem_sortI h]
theorem sorted_L (o : Bool) (us : List Int) : bltf .sorted (.lst o (us.map .int)) = some (.lst true ((sortI us).map .int)) := by
  show (intsOf (us.map .int)).map (fun is => D.lst true ((sortI is).map .int)) = _
  rw [intsOf_map]; rfl
def I10 (ys : List Int) (n : Nat) (r : Env) (acc : List D) : Prop := ∃ (p' : List D) (left us : List Int) (q : Option D), Pl p' ∧ left.length = n ∧ us.length + n = ys.length ∧ (∀ u ∈ left, u ∈ ys) ∧ (∀ u ∈ us, u ∈ ys) ∧ acc = us.map .int ∧ r = [some (.lst true p'), some (.lst false (ys.map .int)), some (.lst true (left.map .int)), q]
theorem w_shuf {k : Nat} {p : List D} {ys : List Int} {Q : D → Env → Prop} {X : XC} {t} (hp : Pl p) (hl : ys.length < 1000) (h : ∀ (us : List Int) p', us.length = ys.length → (∀ u ∈ us, u ∈ ys) → Pl p' → Q (.lst true (us.map .int)) [some (.lst true p'), none]) : W (callN tab (k + 2) 10 [.lst true p, .lst false (ys.map .int)]) Q X t := by
  refine C10 ?_
  trivial
  rw [List.length_map, rng_len hl]
  trivial
  refine compW (fun xs r acc => ∃ (lo : Int) (n : Nat), xs = rngq lo 1 n ∧ I10 ys n r acc) ⟨0, ys.length, rfl, p, ys, [], none, hp, rfl, by simp, by simp, by simp, rfl, rfl⟩ ?_ ?_
  · rintro x xs r acc ⟨lo, n, h0, p', left, us, q, hp', h1, h2, h3, h4, rfl, rfl⟩
    cases n with
    | zero => cases h0
    | succ n =>
      rw [rngq_succ] at h0
      obtain ⟨rfl, rfl⟩ := List.cons.inj h0
      exists List.length_map
      refine w_draw hp' (by omega) (by omega) fun v p1 h5 h6 hp1 => ?_
      obtain ⟨j, rfl⟩ : ∃ j : Nat, v = (j : Int) := ⟨v.toNat, by omega⟩
      have hj : j < left.length := by omega
      have hix : ixq left.length (j : Int) = some j := ixq_nat hj
      have hme : (left.map D.int).eraseIdx j = (left.eraseIdx j).map D.int := erase_map _ _ _
      have hat : (left.map D.int)[j]? = some (.int left[j]) := by rw [List.getElem?_map, List.getElem?_eq_getElem hj]; rfl
      exists List.length_map, hix, hme, hat
      refine ⟨_, _, rfl, p1, left.eraseIdx j, us ++ [left[j]], _, hp1, by rw [List.length_eraseIdx_of_lt hj]; omega, by simp; omega, ?_, ?_, by simp, rfl⟩
      · intro u hu; exact h3 u (List.mem_of_mem_eraseIdx hu)
      · intro u hu
        rcases List.mem_append.mp hu with hu | hu
        · exact h4 u hu
        · have : u = left[j] := by simpa using hu
          rw [this]; exact h3 _ (List.getElem_mem hj)
  · rintro r acc ⟨lo, n, h0, p', left, us, q, hp', h1, h2, h3, h4, rfl, rfl⟩
    cases n with
    | zero =>
      trivial
      exact h us p' (by omega) h4 hp'
    | succ n => rw [rngq_succ] at h0; cases h0
theorem w_marks {k : Nat} {p : List D} {n : Nat} {Q : D → Env → Prop} {X : XC} {t} (hp : Pl p) (h0 : 1 ≤ n) (hl : n < 100) (h : ∀ d p', Pl p' → Q (.tup d) [some (.lst true p'), none]) : W (callN tab (k + 3) 21 [.lst true p, .int n]) Q X t := by
  refine C21 ?_
  trivial
  refine w_draw hp (by omega) (by omega) fun v p1 h1 h2 hp1 => ?_
  obtain ⟨j, rfl⟩ : ∃ j : Nat, v = (j : Int) := ⟨v.toNat, by omega⟩
  have e1 : rng2q 0 ((n : Int) + j + 1) = some (rngq 0 1 (n + j + 1)) := rng_len (n := n + j + 1) (by omega)
  exists e1
  rw [rngq_map]
  refine w_shuf hp1 (by rw [List.length_map, List.length_range]; omega) fun us p2 h3 h4 hp2 => ?_
  exists cut_map, sorted_L, List.map_map
  refine compW (fun xs r acc => (∃ ws : List Int, xs = ws.map .int ∧ ∀ u ∈ ws, u ∈ us) ∧ ∃ (w q : Option D), r = [some (.lst true p2), some (.int n), some (.int (n + j)), w, q]) ⟨⟨_, rfl, fun u hu => cut_mem (mem_sortI hu)⟩, _, _, rfl⟩ ?_ ?_
  · rintro x xs r acc ⟨⟨ws, h5, h6⟩, w, q, rfl⟩
    cases ws with
    | nil => cases h5
    | cons u ws =>
      rw [List.map_cons] at h5
      obtain ⟨rfl, rfl⟩ := List.cons.inj h5
      have h7 := h4 u (h6 u (by simp))
      obtain ⟨i, h8, h9⟩ := List.mem_map.mp h7
      have h10 := List.mem_range.mp h8
      trivial
      refine w_fraction (by omega) (by omega) (by omega) (by omega) fun x y => ?_
      trivial
      exact ⟨⟨ws, rfl, fun u hu => h6 u (by simp [hu])⟩, _, _, rfl⟩
  · rintro r acc ⟨_, w, q, rfl⟩
    trivial
    exact h _ _ hp2
end K84
end
section
set_option maxRecDepth 100000
set_option linter.all false
namespace K84
open Sf
local macro_rules
  | `(tactic| trivial) => `(tactic| simp only [WO_some, WO_none, ↓WO_map, ↓WO_bind, WO_iteN, ↓W_ok, ↓W_bad, ↓W_lift, ↓W_bnd, W_iteBad, W_ite, ↓WS_nx, ↓WS_rt, ↓WS_bk, ↓WS_ct, ↓WS_bad, ↓WS_fin, WS_iteBad, WS_ite, W_ok, W_bad, W_lift, W_bnd,
    ↓w_z, w_pS, w_pN, ↓w_varV, ↓w_var, ↓w_cint, ↓w_cbl, ↓w_cnon, ↓w_cstr, ↓w_bin, ↓w_neg, ↓w_cmp, ↓w_chn, ↓w_not, ↓w_and, ↓w_or, ↓w_one, ↓w_ifx, ↓w_tup, ↓w_lst, ↓w_dic0, ↓w_subV, ↓w_subN, ↓w_slcV, ↓w_slcN, ↓w_call, ↓w_bi, ↓w_bi2, ↓w_isi, ↓w_comp, ↓w_anyA, ↓w_pop0, ↓w_pop1, ↓w_index, ↓w_lrng, ↓w_rng1, ↓w_rng2, ↓w_rng3, ↓w_enm, ↓w_zip, ↓w_iV, ↓w_i_sub, ↓w_i_slc, ↓w_i_call, ↓w_i_tup, ↓w_i_comp,
    w_evs0, w_evs, w_evz0, w_evz, w_evc0, w_evc, ↓w_evo0, w_evo0, w_evo, ↓w_tV, ↓w_tcbl, ↓w_tnot, ↓w_tand, ↓w_tor, ↓w_tone, ↓w_t_cmp, ↓w_t_chn, ↓w_t_call, ↓w_t_sub, ↓w_t_isi, ↓w_t_bi, ↓w_t_bin, w_evts0, w_evts,
    s_nil, s_cons, o_none, o_some, ca_none, ca_some, pm_nil, pm_none, pl_nil, pl_cons, gb_none, gb_some, ↓w_has, isL_some, ↓w_hasL, ↓x_asg, ↓x_asgT, ↓x_par, ↓x_aug, setD_L, ↓x_setx, appD_L, ↓x_app, ↓x_expr, ↓x_ret, ↓x_retN, ↓x_ite, ↓x_whl, ↓x_for, ↓x_brk, ↓x_cnt, ↓x_pass, ↓WS_nil, ↓WS_cons, ↓WS_fF, ↓W_cF,
    bt_nm, bt_tp, pu_nil, pu_cons, pk_z, pk_s, pt_z, pt_s, oz_nil, oz_cons, zq_none, zq_some, wp_nil, wp_cons, bk_nil, bk_cons, fe_none, fe_0, fe_1, jn_some, mv_L, mv_D, mv_non, mv_bl, mv_int, mv_str, mv_tup, mv_F, mv_scr, mv_z,
    slot_var, slot_bad, slot_cint, slot_cbl, slot_cnon, slot_cstr, slot_bin, slot_neg, slot_cmp, slot_chn, slot_not, slot_and, slot_or, slot_ifx, slot_one, slot_tup, slot_lst, slot_sub, slot_slc, slot_call, slot_bi, slot_bi2, slot_isi, slot_comp, slot_lrng, slot_pop0, slot_pop1, slot_index, simple_var, simple_cint, simple_cbl, simple_cnon, simple_cstr, simple_bin, simple_neg, simple_sub, simple_slc, simple_call, simple_bi, simple_bi2, simple_isi, simple_lst, simple_tup, simple_comp, popD, popI, augop, iteq, itemsq, itemsp, List.getElem?_cons_zero, List.getElem?_cons_succ, List.set_cons_zero, List.set_cons_succ, List.replicate_succ, List.replicate_zero, List.map_cons, List.map_nil, List.cons_append, List.nil_append, List.length_cons, List.length_nil,
    Option.bind_some, Option.bind_none, Option.map_some, Option.map_none, Option.join_some, Option.toList_some, Option.toList_none, id_eq,
    frz_non, frz_bl, frz_int, frz_str, frz_tup, frz_lst, frz_dic, frz_scr, isZ_non, isZ_bl, isZ_int, isZ_str, isZ_tup, isZ_lstT, isZ_lstF, isZ_scr, tru_non, tru_bl, tru_int, tru_tup, tru_lst, asInt_int,
    c_eqI, c_neI, c_eqS, c_eqT, c_ltI, c_leI, c_gtI, c_geI, b_addI, b_subI, b_mulI, b_fdivI, b_modI, b_addL, b_addT, b_addS, b_mulL, sl_L, sl_T, bi_lenT, bi_lenL, bi_lenS, bi_absI, bi_intI, bi_listT, bi_listL, bi_listS, bi_tupT, bi_tupL, idx_T, idx_L, atq_0, atq_1, atq_2, atq_3, ixq_0, ixq_1, ixq_2,
    Nat.reduceSub, Nat.reduceAdd, Nat.reduceEqDiff, Int.reduceNeg, Int.reduceAdd, Int.reduceSub, Int.reduceMul, Int.reduceLT, Int.reduceLE, Option.some.injEq, Nat.reduceLeDiff, Nat.zero_add, List.isEmpty_cons, List.isEmpty_nil,
    if_true, if_false, ite_true, ite_false, ↓reduceIte, decide_eq_true_eq, beq_iff_eq, bne_iff_ne, ne_eq, Bool.not_eq_true', Bool.not_eq_eq_eq_not, Bool.and_true, Bool.true_and, Bool.false_and, Bool.not_true, Bool.not_false, Bool.false_eq_true, reduceCtorEq, and_true, true_and, and_self, bltg, isiq,
    f_is_number, f_nexts_of, f_walk, f_lower, f_hopes, f_follows, f_nested, f_law_pool, f_law_draw, f_law_pick, f_law_shuffled, f_law_same, f_law_fraction, f_law_chance, f_law_tree, f_law_nodes, f_law_plan, f_law_names, f_law_bare, f_law_ends, f_law_with_tells, f_law_marks, f_law,
    sig_0, sig_1, sig_2, sig_3, sig_4, sig_5, sig_6, sig_7, sig_8, sig_9, sig_10, sig_11, sig_12, sig_13, sig_14, sig_15, sig_16, sig_17, sig_18, sig_19, sig_20, sig_21, sig_22])
  | `(tactic| exists $es:term,*) => `(tactic| simp only [WO_some, WO_none, ↓WO_map, ↓WO_bind, WO_iteN, ↓W_ok, ↓W_bad, ↓W_lift, ↓W_bnd, W_iteBad, W_ite, ↓WS_nx, ↓WS_rt, ↓WS_bk, ↓WS_ct, ↓WS_bad, ↓WS_fin, WS_iteBad, WS_ite, W_ok, W_bad, W_lift, W_bnd,
    ↓w_z, w_pS, w_pN, ↓w_varV, ↓w_var, ↓w_cint, ↓w_cbl, ↓w_cnon, ↓w_cstr, ↓w_bin, ↓w_neg, ↓w_cmp, ↓w_chn, ↓w_not, ↓w_and, ↓w_or, ↓w_one, ↓w_ifx, ↓w_tup, ↓w_lst, ↓w_dic0, ↓w_subV, ↓w_subN, ↓w_slcV, ↓w_slcN, ↓w_call, ↓w_bi, ↓w_bi2, ↓w_isi, ↓w_comp, ↓w_anyA, ↓w_pop0, ↓w_pop1, ↓w_index, ↓w_lrng, ↓w_rng1, ↓w_rng2, ↓w_rng3, ↓w_enm, ↓w_zip, ↓w_iV, ↓w_i_sub, ↓w_i_slc, ↓w_i_call, ↓w_i_tup, ↓w_i_comp,
    w_evs0, w_evs, w_evz0, w_evz, w_evc0, w_evc, ↓w_evo0, w_evo0, w_evo, ↓w_tV, ↓w_tcbl, ↓w_tnot, ↓w_tand, ↓w_tor, ↓w_tone, ↓w_t_cmp, ↓w_t_chn, ↓w_t_call, ↓w_t_sub, ↓w_t_isi, ↓w_t_bi, ↓w_t_bin, w_evts0, w_evts,
    s_nil, s_cons, o_none, o_some, ca_none, ca_some, pm_nil, pm_none, pl_nil, pl_cons, gb_none, gb_some, ↓w_has, isL_some, ↓w_hasL, ↓x_asg, ↓x_asgT, ↓x_par, ↓x_aug, setD_L, ↓x_setx, appD_L, ↓x_app, ↓x_expr, ↓x_ret, ↓x_retN, ↓x_ite, ↓x_whl, ↓x_for, ↓x_brk, ↓x_cnt, ↓x_pass, ↓WS_nil, ↓WS_cons, ↓WS_fF, ↓W_cF,
    bt_nm, bt_tp, pu_nil, pu_cons, pk_z, pk_s, pt_z, pt_s, oz_nil, oz_cons, zq_none, zq_some, wp_nil, wp_cons, bk_nil, bk_cons, fe_none, fe_0, fe_1, jn_some, mv_L, mv_D, mv_non, mv_bl, mv_int, mv_str, mv_tup, mv_F, mv_scr, mv_z,
    slot_var, slot_bad, slot_cint, slot_cbl, slot_cnon, slot_cstr, slot_bin, slot_neg, slot_cmp, slot_chn, slot_not, slot_and, slot_or, slot_ifx, slot_one, slot_tup, slot_lst, slot_sub, slot_slc, slot_call, slot_bi, slot_bi2, slot_isi, slot_comp, slot_lrng, slot_pop0, slot_pop1, slot_index, simple_var, simple_cint, simple_cbl, simple_cnon, simple_cstr, simple_bin, simple_neg, simple_sub, simple_slc, simple_call, simple_bi, simple_bi2, simple_isi, simple_lst, simple_tup, simple_comp, popD, popI, augop, iteq, itemsq, itemsp, List.getElem?_cons_zero, List.getElem?_cons_succ, List.set_cons_zero, List.set_cons_succ, List.replicate_succ, List.replicate_zero, List.map_cons, List.map_nil, List.cons_append, List.nil_append, List.length_cons, List.length_nil,
    Option.bind_some, Option.bind_none, Option.map_some, Option.map_none, Option.join_some, Option.toList_some, Option.toList_none, id_eq,
    frz_non, frz_bl, frz_int, frz_str, frz_tup, frz_lst, frz_dic, frz_scr, isZ_non, isZ_bl, isZ_int, isZ_str, isZ_tup, isZ_lstT, isZ_lstF, isZ_scr, tru_non, tru_bl, tru_int, tru_tup, tru_lst, asInt_int,
    c_eqI, c_neI, c_eqS, c_eqT, c_ltI, c_leI, c_gtI, c_geI, b_addI, b_subI, b_mulI, b_fdivI, b_modI, b_addL, b_addT, b_addS, b_mulL, sl_L, sl_T, bi_lenT, bi_lenL, bi_lenS, bi_absI, bi_intI, bi_listT, bi_listL, bi_listS, bi_tupT, bi_tupL, idx_T, idx_L, atq_0, atq_1, atq_2, atq_3, ixq_0, ixq_1, ixq_2,
    Nat.reduceSub, Nat.reduceAdd, Nat.reduceEqDiff, Int.reduceNeg, Int.reduceAdd, Int.reduceSub, Int.reduceMul, Int.reduceLT, Int.reduceLE, Option.some.injEq, Nat.reduceLeDiff, Nat.zero_add, List.isEmpty_cons, List.isEmpty_nil,
    if_true, if_false, ite_true, ite_false, ↓reduceIte, decide_eq_true_eq, beq_iff_eq, bne_iff_ne, ne_eq, Bool.not_eq_true', Bool.not_eq_eq_eq_not, Bool.and_true, Bool.true_and, Bool.false_and, Bool.not_true, Bool.not_false, Bool.false_eq_true, reduceCtorEq, and_true, true_and, and_self, bltg, isiq,
    f_is_number, f_nexts_of, f_walk, f_lower, f_hopes, f_follows, f_nested, f_law_pool, f_law_draw, f_law_pick, f_law_shuffled, f_law_same, f_law_fraction, f_law_chance, f_law_tree, f_law_nodes, f_law_plan, f_law_names, f_law_bare, f_law_ends, f_law_with_tells, f_law_marks, f_law,
    sig_0, sig_1, sig_2, sig_3, sig_4, sig_5, sig_6, sig_7, sig_8, sig_9, sig_10, sig_11, sig_12, sig_13, sig_14, sig_15, sig_16, sig_17, sig_18, sig_19, sig_20, sig_21, sig_22, $[$es:term],*])
theorem c_ne00 : cmpop .ne (.lst false []) (.lst false []) = some false := by decide
section
variable {sg : Sig} {C : Calls} {N : Env → Prop} {R : D → Env → Prop} {B K : Env → Prop} {X : XC} {t : T5 N R B K X}
variable {v ppl dr deep arms : Int} {p : List D} {c : List D}
def te (p : List D) (arms ppl dr deep v : Int) : Env := [some (.lst true p), some (.int arms), some (.lst false []), some (.int ppl), some (.int dr), some (.int deep), some (.int v), none, none, none, none, none]
theorem tree_skip1 (h : ¬ (v < 4 ∧ 0 < ppl ∧ 0 < deep)) : WS (ex sg C tree_1 (te p arms ppl dr deep v)) N R B K X t = N (te p arms ppl dr deep v) := by
  unfold tree_1 te
  by_cases h1 : v < 4
  · by_cases h2 : 0 < ppl
    · by_cases h3 : 0 < deep
      · exact absurd ⟨h1, h2, h3⟩ h
      · exists h1, h2, h3
    · exists h1, h2
  · exists h1
theorem tree_skip2 (h : ¬ (v = 4 ∧ 1 < ppl ∧ 0 < deep)) : WS (ex sg C tree_2 (te p arms ppl dr deep v)) N R B K X t = N (te p arms ppl dr deep v) := by
  unfold tree_2 te
  by_cases h1 : v = 4
  · by_cases h2 : 1 < ppl
    · by_cases h3 : 0 < deep
      · exact absurd ⟨h1, h2, h3⟩ h
      · exists h1, h2, h3
    · exists h1, h2
  · exists h1
theorem tree_skip3 (h : ¬ (v = 5 ∧ 0 < dr ∧ 0 < deep)) : WS (ex sg C tree_3 (te p arms ppl dr deep v)) N R B K X t = N (te p arms ppl dr deep v) := by
  unfold tree_3 te
  by_cases h1 : v = 5
  · by_cases h2 : 0 < dr
    · by_cases h3 : 0 < deep
      · exact absurd ⟨h1, h2, h3⟩ h
      · exists h1, h2, h3
    · exists h1, h2
  · exists h1
theorem tree_skip4 : WS (ex sg C tree_4 (te p arms ppl dr deep v)) N R B K X t = N (te p arms ppl dr deep v) := by
  unfold tree_4 te
  have e0 : (0 : Nat) ≤ SZ := by decide
  by_cases h1 : v < 8 <;> (exists h1, c_ne00, e0)
end
theorem enc_tup : ∀ T : Tr, ∃ xs, enc T = .tup xs
  | .fin => ⟨_, rfl⟩
  | .nd h cs => by cases h <;> exact ⟨_, rfl⟩
theorem frz_enc (T : Tr) : (enc T).frz = enc T := by
  obtain ⟨xs, e⟩ := enc_tup T
  rw [e]; rfl
def tE (arms ppl dr deep v : Int) (s7 s8 : Option D) (p : List D) (q : Option D) : Env := [some (.lst true p), some (.int arms), some (.lst false []), some (.int ppl), some (.int dr), some (.int deep), some (.int v), s7, s8, none, q, none]
theorem tree_comp {sg : Sig} {C : Calls} {elt : E} {n' N : Nat} {arms ppl dr deep v : Int} {s7 s8 : Option D} {p : List D} {Q : List D → Env → Prop} {X : XC} {t : T2 Q X} (hp : Pl p)
    (step : ∀ (x : D) (p : List D) (Q : D → Env → Prop) (t : T2 Q X), Pl p → (∀ (T : Tr) p', wf n' T → Pl p' → Q (enc T) (tE arms ppl dr deep v s7 s8 p' (some x))) → W ((ev3 sg C elt).v (tE arms ppl dr deep v s7 s8 p (some x))) Q X t)
    (h : ∀ (ts : List Tr) p' q, ts.length = N → wfs n' ts → Pl p' → Q (encs ts) (tE arms ppl dr deep v s7 s8 p' q)) : W (compL [10] (cF sg C elt (.nm 10) []) (rngq 0 1 N) (tE arms ppl dr deep v s7 s8 p none)) Q X t := by
  refine compW (fun xs r acc => ∃ (lo : Int) (j : Nat) (ts : List Tr) (p' : List D) (q : Option D), xs = rngq lo 1 j ∧ ts.length + j = N ∧ wfs n' ts ∧ Pl p' ∧ acc = encs ts ∧ r = tE arms ppl dr deep v s7 s8 p' q) ⟨0, N, [], p, none, rfl, by simp, True.intro, hp, rfl, rfl⟩ ?_ ?_
  · rintro x xs r acc ⟨lo, j, ts, p', q, h0, h1, h2, h3, rfl, rfl⟩
    cases j with
    | zero => cases h0
    | succ j =>
      rw [rngq_succ] at h0
      obtain ⟨rfl, rfl⟩ := List.cons.inj h0
      unfold tE
      trivial
      refine step (.int lo) p' _ _ h3 fun T p1 hT hp1 => ?_
      exact ⟨_, _, ts ++ [T], p1, _, rfl, by simp; omega, wfs_append h2 ⟨hT, True.intro⟩, hp1, by rw [frz_enc, encs_append]; rfl, rfl⟩
  · rintro r acc ⟨lo, j, ts, p', q, h0, h1, h2, h3, rfl, rfl⟩
    cases j with
    | zero => exact h ts p' q (by omega) h2 h3
    | succ j => rw [rngq_succ] at h0; cases h0
def TreeAt (arms : Int) (k n : Nat) : Prop := ∀ (p : List D) (ppl dr deep : Int) (Q : D → Env → Prop) (X : XC) (t : T2 Q X), Pl p → deep ≤ n → (∀ (T : Tr) p', wf n T → Pl p' → Q (enc T) [some (.lst true p'), none, none, none, none, none]) → W (callN tab k 14 [.lst true p, .int arms, .lst false [], .int ppl, .int dr, .int deep]) Q X t
theorem tree_at (arms : Int) (ha : 0 < arms) (ha2 : arms < 1000) (k : Nat) : ∀ n : Nat, TreeAt arms (k + n + 3) n
  | n => by
    have ih : ∀ m, m < n → TreeAt arms (k + n + 2) m := fun m hm => by
      have := tree_at arms ha ha2 (k + (n - 1 - m)) m
      rwa [show k + (n - 1 - m) + m + 3 = k + n + 2 by omega] at this
    have e2 : rng2q 0 2 = some (rngq 0 1 2) := rng_len (n := 2) (by omega)
    intro p ppl dr deep Q X t hp hd h
    refine C14 ?_
    rw [tree_is]
    simp only [↓WS_cons]
    unfold tree_0
    trivial
    refine w_draw hp (by omega) (by omega) fun v p1 h1 h2 hp1 => ?_
    trivial
    rw [show [some (D.lst true p1), some (.int arms), some (.lst false []), some (.int ppl), some (.int dr), some (.int deep), some (.int v), none, none, none, none, none] = te p1 arms ppl dr deep v from rfl]
    by_cases c1 : v < 4 ∧ 0 < ppl ∧ 0 < deep
    · obtain ⟨c1, c2, c3⟩ := c1
      unfold tree_1 te
      exists c1, c2, c3, e2
      obtain ⟨m, rfl⟩ : ∃ m, n = m + 1 := ⟨n - 1, by omega⟩
      refine tree_comp (n' := m) (s7 := none) (s8 := none) hp1 (fun x p Q t hp h => ?_) fun ts p2 q h3 h4 hp2 => ?_
      · unfold tE
        trivial
        refine ih m (by omega) _ _ _ _ _ _ _ hp (by omega) fun T p' hT hp' => ?_
        trivial
        exact h T p' hT hp'
      · obtain ⟨t1, t2, rfl⟩ : ∃ t1 t2, ts = [t1, t2] := by
          match ts, h3 with
          | [t1, t2], _ => exact ⟨t1, t2, rfl⟩
        unfold tE
        simp only [encs]
        trivial
        refine w_draw hp2 (by omega) (by omega) fun v3 p3 h5 h6 hp3 => ?_
        have e4 : 0 + 1 + 1 + 1 + 1 ≤ SZ := by decide
        exists frz_enc, e4
        exact h (.nd (.look v3) [t1, t2]) p3 ⟨rfl, h4⟩ hp3
    · exists tree_skip1 c1
      by_cases c2 : v = 4 ∧ 1 < ppl ∧ 0 < deep
      · obtain ⟨c1, c2, c3⟩ := c2
        unfold tree_2 te
        exists c1, c2, c3
        obtain ⟨m, rfl⟩ : ∃ m, n = m + 1 := ⟨n - 1, by omega⟩
        refine w_draw hp1 (by split <;> omega) (by split <;> omega) fun v3 p3 h5 h6 hp3 => ?_
        have h7 : v3 < 2 := by
          split at h6 <;> omega
        trivial
        refine w_draw hp3 (by omega) (by omega) fun v4 p4 h8 h9 hp4 => ?_
        obtain ⟨j, rfl⟩ : ∃ j : Nat, v3 = (j : Int) := ⟨v3.toNat, by omega⟩
        have e3 : rng2q 0 (2 + (j : Int) + 1) = some (rngq 0 1 (2 + j + 1)) := rng_len (n := 2 + j + 1) (by omega)
        exists e3
        refine tree_comp (n' := m) (s7 := none) (s8 := some (.int (2 + j))) hp4 (fun x p Q t hp h => ?_) fun ts p2 q h3 h4 hp2 => ?_
        · unfold tE
          trivial
          refine ih m (by omega) _ _ _ _ _ _ _ hp (by omega) fun T p' hT hp' => ?_
          trivial
          exact h T p' hT hp'
        · unfold tE
          have e4 : 0 + 1 + 1 + 1 + 1 ≤ SZ := by decide
          exists e4
          exact h (.nd (.block v4 (2 + j)) ts) p2 ⟨⟨by omega, by omega⟩, h4⟩ hp2
      · exists tree_skip2 c2
        by_cases c3 : v = 5 ∧ 0 < dr ∧ 0 < deep
        · obtain ⟨c1, c2, c3⟩ := c3
          unfold tree_3 te
          exists c1, c2, c3, e2
          obtain ⟨m, rfl⟩ : ∃ m, n = m + 1 := ⟨n - 1, by omega⟩
          refine tree_comp (n' := m) (s7 := none) (s8 := none) hp1 (fun x p Q t hp h => ?_) fun ts p2 q h3 h4 hp2 => ?_
          · unfold tE
            trivial
            refine ih m (by omega) _ _ _ _ _ _ _ hp (by omega) fun T p' hT hp' => ?_
            trivial
            exact h T p' hT hp'
          · obtain ⟨t1, t2, rfl⟩ : ∃ t1 t2, ts = [t1, t2] := by
              match ts, h3 with
              | [t1, t2], _ => exact ⟨t1, t2, rfl⟩
            unfold tE
            simp only [encs]
            trivial
            refine w_chance hp2 fun x3 y3 p3 hp3 => ?_
            have e4 : 0 + 1 + 1 + 1 + 1 ≤ SZ := by decide
            exists frz_enc, e4
            exact h (.nd (.draw x3 y3) [t1, t2]) p3 ⟨rfl, h4⟩ hp3
        · exists tree_skip3 c3, tree_skip4
          unfold tree_5 te
          have e1 : 1 ≤ SZ := by decide
          exists e1
          exact h .fin p1 (by cases n <;> exact True.intro) hp1
end K84
end
section
set_option maxRecDepth 100000
set_option linter.all false
namespace K84
open Sf
local macro_rules
  | `(tactic| trivial) => `(tactic| simp only [WO_some, WO_none, ↓WO_map, ↓WO_bind, WO_iteN, ↓W_ok, ↓W_bad, ↓W_lift, ↓W_bnd, W_iteBad, W_ite, ↓WS_nx, ↓WS_rt, ↓WS_bk, ↓WS_ct, ↓WS_bad, ↓WS_fin, WS_iteBad, WS_ite, W_ok, W_bad, W_lift, W_bnd,
    ↓w_z, w_pS, w_pN, ↓w_varV, ↓w_var, ↓w_cint, ↓w_cbl, ↓w_cnon, ↓w_cstr, ↓w_bin, ↓w_neg, ↓w_cmp, ↓w_chn, ↓w_not, ↓w_and, ↓w_or, ↓w_one, ↓w_ifx, ↓w_tup, ↓w_lst, ↓w_dic0, ↓w_subV, ↓w_subN, ↓w_slcV, ↓w_slcN, ↓w_call, ↓w_bi, ↓w_bi2, ↓w_isi, ↓w_comp, ↓w_anyA, ↓w_pop0, ↓w_pop1, ↓w_index, ↓w_lrng, ↓w_rng1, ↓w_rng2, ↓w_rng3, ↓w_enm, ↓w_zip, ↓w_iV, ↓w_i_sub, ↓w_i_slc, ↓w_i_call, ↓w_i_tup, ↓w_i_comp,
    w_evs0, w_evs, w_evz0, w_evz, w_evc0, w_evc, ↓w_evo0, w_evo0, w_evo, ↓w_tV, ↓w_tcbl, ↓w_tnot, ↓w_tand, ↓w_tor, ↓w_tone, ↓w_t_cmp, ↓w_t_chn, ↓w_t_call, ↓w_t_sub, ↓w_t_isi, ↓w_t_bi, ↓w_t_bin, w_evts0, w_evts,
    s_nil, s_cons, o_none, o_some, ca_none, ca_some, pm_nil, pm_none, pl_nil, pl_cons, gb_none, gb_some, ↓w_has, isL_some, ↓w_hasL, ↓x_asg, ↓x_asgT, ↓x_par, ↓x_aug, setD_L, ↓x_setx, appD_L, ↓x_app, ↓x_expr, ↓x_ret, ↓x_retN, ↓x_ite, ↓x_whl, ↓x_for, ↓x_brk, ↓x_cnt, ↓x_pass, ↓WS_nil, ↓WS_cons, ↓WS_fF, ↓W_cF,
    bt_nm, bt_tp, pu_nil, pu_cons, pk_z, pk_s, pt_z, pt_s, oz_nil, oz_cons, zq_none, zq_some, wp_nil, wp_cons, bk_nil, bk_cons, fe_none, fe_0, fe_1, jn_some, mv_L, mv_D, mv_non, mv_bl, mv_int, mv_str, mv_tup, mv_F, mv_scr, mv_z,
    q_End_end, q_End_look, q_End_block, q_End_draw, q_End_tell, q_End_choose, q_Look_end, q_Look_look, q_Look_block, q_Look_draw, q_Look_tell, q_Look_choose, q_Block_end, q_Block_look, q_Block_block, q_Block_draw, q_Block_tell, q_Block_choose, q_Draw_end, q_Draw_look, q_Draw_block, q_Draw_draw, q_Draw_tell, q_Draw_choose, q_Tell_end, q_Tell_look, q_Tell_block, q_Tell_draw, q_Tell_tell, q_Tell_choose, cut_2, cut_t2, cut_t3,
    slot_var, slot_bad, slot_cint, slot_cbl, slot_cnon, slot_cstr, slot_bin, slot_neg, slot_cmp, slot_chn, slot_not, slot_and, slot_or, slot_ifx, slot_one, slot_tup, slot_lst, slot_sub, slot_slc, slot_call, slot_bi, slot_bi2, slot_isi, slot_comp, slot_lrng, slot_pop0, slot_pop1, slot_index, simple_var, simple_cint, simple_cbl, simple_cnon, simple_cstr, simple_bin, simple_neg, simple_sub, simple_slc, simple_call, simple_bi, simple_bi2, simple_isi, simple_lst, simple_tup, simple_comp, popD, popI, augop, iteq, itemsq, itemsp, List.getElem?_cons_zero, List.getElem?_cons_succ, List.set_cons_zero, List.set_cons_succ, List.replicate_succ, List.replicate_zero, List.map_cons, List.map_nil, List.cons_append, List.nil_append, List.length_cons, List.length_nil,
    Option.bind_some, Option.bind_none, Option.map_some, Option.map_none, Option.join_some, Option.toList_some, Option.toList_none, id_eq,
    frz_non, frz_bl, frz_int, frz_str, frz_tup, frz_lst, frz_dic, frz_scr, isZ_non, isZ_bl, isZ_int, isZ_str, isZ_tup, isZ_lstT, isZ_lstF, isZ_scr, tru_non, tru_bl, tru_int, tru_tup, tru_lst, asInt_int,
    c_eqI, c_neI, c_eqS, c_eqT, c_ltI, c_leI, c_gtI, c_geI, b_addI, b_subI, b_mulI, b_fdivI, b_modI, b_addL, b_addT, b_addS, b_mulL, sl_L, sl_T, bi_lenT, bi_lenL, bi_lenS, bi_absI, bi_intI, bi_listT, bi_listL, bi_listS, bi_tupT, bi_tupL, idx_T, idx_L, atq_0, atq_1, atq_2, atq_3, ixq_0, ixq_1, ixq_2,
    Nat.reduceSub, Nat.reduceAdd, Nat.reduceEqDiff, Int.reduceNeg, Int.reduceAdd, Int.reduceSub, Int.reduceMul, Int.reduceLT, Int.reduceLE, Option.some.injEq, Nat.reduceLeDiff, Nat.zero_add, List.isEmpty_cons, List.isEmpty_nil,
    if_true, if_false, ite_true, ite_false, ↓reduceIte, decide_eq_true_eq, beq_iff_eq, bne_iff_ne, ne_eq, Bool.not_eq_true', Bool.not_eq_eq_eq_not, Bool.and_true, Bool.true_and, Bool.false_and, Bool.not_true, Bool.not_false, Bool.false_eq_true, reduceCtorEq, and_true, true_and, and_self, bltg, isiq,
    f_is_number, f_nexts_of, f_walk, f_lower, f_hopes, f_follows, f_nested, f_law_pool, f_law_draw, f_law_pick, f_law_shuffled, f_law_same, f_law_fraction, f_law_chance, f_law_tree, f_law_nodes, f_law_plan, f_law_names, f_law_bare, f_law_ends, f_law_with_tells, f_law_marks, f_law,
    sig_0, sig_1, sig_2, sig_3, sig_4, sig_5, sig_6, sig_7, sig_8, sig_9, sig_10, sig_11, sig_12, sig_13, sig_14, sig_15, sig_16, sig_17, sig_18, sig_19, sig_20, sig_21, sig_22])
  | `(tactic| exists $es:term,*) => `(tactic| simp only [WO_some, WO_none, ↓WO_map, ↓WO_bind, WO_iteN, ↓W_ok, ↓W_bad, ↓W_lift, ↓W_bnd, W_iteBad, W_ite, ↓WS_nx, ↓WS_rt, ↓WS_bk, ↓WS_ct, ↓WS_bad, ↓WS_fin, WS_iteBad, WS_ite, W_ok, W_bad, W_lift, W_bnd,
    ↓w_z, w_pS, w_pN, ↓w_varV, ↓w_var, ↓w_cint, ↓w_cbl, ↓w_cnon, ↓w_cstr, ↓w_bin, ↓w_neg, ↓w_cmp, ↓w_chn, ↓w_not, ↓w_and, ↓w_or, ↓w_one, ↓w_ifx, ↓w_tup, ↓w_lst, ↓w_dic0, ↓w_subV, ↓w_subN, ↓w_slcV, ↓w_slcN, ↓w_call, ↓w_bi, ↓w_bi2, ↓w_isi, ↓w_comp, ↓w_anyA, ↓w_pop0, ↓w_pop1, ↓w_index, ↓w_lrng, ↓w_rng1, ↓w_rng2, ↓w_rng3, ↓w_enm, ↓w_zip, ↓w_iV, ↓w_i_sub, ↓w_i_slc, ↓w_i_call, ↓w_i_tup, ↓w_i_comp,
    w_evs0, w_evs, w_evz0, w_evz, w_evc0, w_evc, ↓w_evo0, w_evo0, w_evo, ↓w_tV, ↓w_tcbl, ↓w_tnot, ↓w_tand, ↓w_tor, ↓w_tone, ↓w_t_cmp, ↓w_t_chn, ↓w_t_call, ↓w_t_sub, ↓w_t_isi, ↓w_t_bi, ↓w_t_bin, w_evts0, w_evts,
    s_nil, s_cons, o_none, o_some, ca_none, ca_some, pm_nil, pm_none, pl_nil, pl_cons, gb_none, gb_some, ↓w_has, isL_some, ↓w_hasL, ↓x_asg, ↓x_asgT, ↓x_par, ↓x_aug, setD_L, ↓x_setx, appD_L, ↓x_app, ↓x_expr, ↓x_ret, ↓x_retN, ↓x_ite, ↓x_whl, ↓x_for, ↓x_brk, ↓x_cnt, ↓x_pass, ↓WS_nil, ↓WS_cons, ↓WS_fF, ↓W_cF,
    bt_nm, bt_tp, pu_nil, pu_cons, pk_z, pk_s, pt_z, pt_s, oz_nil, oz_cons, zq_none, zq_some, wp_nil, wp_cons, bk_nil, bk_cons, fe_none, fe_0, fe_1, jn_some, mv_L, mv_D, mv_non, mv_bl, mv_int, mv_str, mv_tup, mv_F, mv_scr, mv_z,
    q_End_end, q_End_look, q_End_block, q_End_draw, q_End_tell, q_End_choose, q_Look_end, q_Look_look, q_Look_block, q_Look_draw, q_Look_tell, q_Look_choose, q_Block_end, q_Block_look, q_Block_block, q_Block_draw, q_Block_tell, q_Block_choose, q_Draw_end, q_Draw_look, q_Draw_block, q_Draw_draw, q_Draw_tell, q_Draw_choose, q_Tell_end, q_Tell_look, q_Tell_block, q_Tell_draw, q_Tell_tell, q_Tell_choose, cut_2, cut_t2, cut_t3,
    slot_var, slot_bad, slot_cint, slot_cbl, slot_cnon, slot_cstr, slot_bin, slot_neg, slot_cmp, slot_chn, slot_not, slot_and, slot_or, slot_ifx, slot_one, slot_tup, slot_lst, slot_sub, slot_slc, slot_call, slot_bi, slot_bi2, slot_isi, slot_comp, slot_lrng, slot_pop0, slot_pop1, slot_index, simple_var, simple_cint, simple_cbl, simple_cnon, simple_cstr, simple_bin, simple_neg, simple_sub, simple_slc, simple_call, simple_bi, simple_bi2, simple_isi, simple_lst, simple_tup, simple_comp, popD, popI, augop, iteq, itemsq, itemsp, List.getElem?_cons_zero, List.getElem?_cons_succ, List.set_cons_zero, List.set_cons_succ, List.replicate_succ, List.replicate_zero, List.map_cons, List.map_nil, List.cons_append, List.nil_append, List.length_cons, List.length_nil,
    Option.bind_some, Option.bind_none, Option.map_some, Option.map_none, Option.join_some, Option.toList_some, Option.toList_none, id_eq,
    frz_non, frz_bl, frz_int, frz_str, frz_tup, frz_lst, frz_dic, frz_scr, isZ_non, isZ_bl, isZ_int, isZ_str, isZ_tup, isZ_lstT, isZ_lstF, isZ_scr, tru_non, tru_bl, tru_int, tru_tup, tru_lst, asInt_int,
    c_eqI, c_neI, c_eqS, c_eqT, c_ltI, c_leI, c_gtI, c_geI, b_addI, b_subI, b_mulI, b_fdivI, b_modI, b_addL, b_addT, b_addS, b_mulL, sl_L, sl_T, bi_lenT, bi_lenL, bi_lenS, bi_absI, bi_intI, bi_listT, bi_listL, bi_listS, bi_tupT, bi_tupL, idx_T, idx_L, atq_0, atq_1, atq_2, atq_3, ixq_0, ixq_1, ixq_2,
    Nat.reduceSub, Nat.reduceAdd, Nat.reduceEqDiff, Int.reduceNeg, Int.reduceAdd, Int.reduceSub, Int.reduceMul, Int.reduceLT, Int.reduceLE, Option.some.injEq, Nat.reduceLeDiff, Nat.zero_add, List.isEmpty_cons, List.isEmpty_nil,
    if_true, if_false, ite_true, ite_false, ↓reduceIte, decide_eq_true_eq, beq_iff_eq, bne_iff_ne, ne_eq, Bool.not_eq_true', Bool.not_eq_eq_eq_not, Bool.and_true, Bool.true_and, Bool.false_and, Bool.not_true, Bool.not_false, Bool.false_eq_true, reduceCtorEq, and_true, true_and, and_self, bltg, isiq,
    f_is_number, f_nexts_of, f_walk, f_lower, f_hopes, f_follows, f_nested, f_law_pool, f_law_draw, f_law_pick, f_law_shuffled, f_law_same, f_law_fraction, f_law_chance, f_law_tree, f_law_nodes, f_law_plan, f_law_names, f_law_bare, f_law_ends, f_law_with_tells, f_law_marks, f_law,
    sig_0, sig_1, sig_2, sig_3, sig_4, sig_5, sig_6, sig_7, sig_8, sig_9, sig_10, sig_11, sig_12, sig_13, sig_14, sig_15, sig_16, sig_17, sig_18, sig_19, sig_20, sig_21, sig_22, $[$es:term],*])
theorem w_bare {k n : Nat} {arms : Int} {p : List D} {ppl deep : Int} {Q : D → Env → Prop} {X : XC} {t} (ha : 0 < arms) (ha2 : arms < 1000) (hp : Pl p) (hd : deep ≤ n) (h : ∀ (T : Tr) p', wf n T → Pl p' → Q (enc T) [some (.lst true p'), none, none, none]) : W (callN tab (k + n + 4) 18 [.lst true p, .int arms, .int ppl, .int deep]) Q X t := by
  refine C18 ?_
  have e0 : 0 ≤ SZ := by decide
  exists e0
  refine tree_at arms ha ha2 k n _ _ _ _ _ _ _ hp hd fun T p' hT hp' => ?_
  trivial
  exact h T p' hT hp'
/-! ### rows -/
theorem enc_isZ (T : Tr) : (enc T).isZ = true := by
  obtain ⟨xs, e⟩ := enc_tup T
  rw [e]; rfl
abbrev Row := List Int
def rowD (r : Row) : D := .tup (r.map .int)
mutual
def ends : Tr → Row → List Row
  | .fin, r => [r]
  | .nd _ cs, r => endsL cs r 0
def endsL : List Tr → Row → Nat → List Row
  | [], _, _ => []
  | c :: cs, r, k => ends c (r ++ [(k : Int)]) ++ endsL cs r (k + 1)
end
theorem endsL_app : ∀ (cs ds : List Tr) (r : Row) (k : Nat), endsL (cs ++ ds) r k = endsL cs r k ++ endsL ds r (k + cs.length)
  | [], ds, r, k => by simp [endsL]
  | c :: cs, ds, r, k => by
    simp only [List.cons_append, endsL, endsL_app cs ds r (k + 1), List.append_assoc, List.length_cons]
    rw [show k + 1 + cs.length = k + (cs.length + 1) by omega]
mutual
theorem ends_le : ∀ (n : Nat) (T : Tr) (r : Row), wf n T → (ends T r).length ≤ 4 ^ n
  | n, .fin, r, _ => by simp only [ends, List.length_cons, List.length_nil]; exact Nat.pow_pos (show 0 < 4 by decide)
  | n + 1, .nd h cs, r, hw => by
    have h4 : cs.length ≤ 4 := by
      have := hw.1
      cases h <;> simp only [Hd.ok] at this <;> omega
    have := endsL_le n cs r 0 hw.2
    simp only [ends]
    calc _ ≤ cs.length * 4 ^ n := this
      _ ≤ 4 * 4 ^ n := Nat.mul_le_mul_right _ h4
      _ = 4 ^ (n + 1) := by rw [Nat.pow_succ, Nat.mul_comm]
theorem endsL_le : ∀ (n : Nat) (cs : List Tr) (r : Row) (k : Nat), wfs n cs → (endsL cs r k).length ≤ cs.length * 4 ^ n
  | n, [], r, k, _ => by simp [endsL]
  | n, c :: cs, r, k, hw => by
    have h1 := ends_le n c (r ++ [(k : Int)]) hw.1
    have h2 := endsL_le n cs r (k + 1) hw.2
    simp only [endsL, List.length_append, List.length_cons, Nat.add_mul]
    omega
end
theorem encs_at (cs : List Tr) (c : Tr) (ds : List Tr) : (encs (cs ++ c :: ds))[cs.length]? = some (enc c) := by
  rw [encs_append, List.getElem?_append_right (by rw [encs_len]; exact Nat.le_refl _), encs_len, Nat.sub_self]
  rfl
theorem wf_at : ∀ {n : Nat} {cs : List Tr} {c : Tr} {ds : List Tr}, wfs n (cs ++ c :: ds) → wf n c
  | _, [], _, _, h => h.1
  | _, _ :: cs, _, _, h => wf_at (cs := cs) h.2
def I19 (n : Nat) (cs : List Tr) (row : Row) (T : Tr) (xs : List D) (r : Env) : Prop := ∃ (done rest : List Tr) (o : Bool) (q : Option D), cs = done ++ rest ∧ xs = rngq (done.length : Int) 1 rest.length ∧ r = [some (enc T), some (rowD row), some (.tup (encs cs)), some (.lst o ((endsL done row 0).map rowD)), q]
theorem rowD_app (r : Row) (i : Int) : D.tup (r.map .int ++ [.int i]) = rowD (r ++ [i]) := by
  unfold rowD; rw [List.map_append]; rfl
theorem ends_tail {k n : Nat} (ih : ∀ (T : Tr) (row : Row) (Q : D → Env → Prop) (X : XC) (t : T2 Q X), wf n T → row.length + n < 100 → (∀ o, Q (.lst o ((ends T row).map rowD)) [none, none]) → W (callN tab (k + n + 1) 19 [enc T, rowD row]) Q X t)
    {h : Hd} {cs : List Tr} {row : Row} {Q : D → Env → Prop} {X : XC} {N : Env → Prop} {B K : Env → Prop} {t} (hn : n < 9) (hw : wf (n + 1) (.nd h cs)) (hr : row.length + (n + 1) < 100) (hQ : ∀ o, Q (.lst o ((ends (.nd h cs) row).map rowD)) [none, none]) :
    WS (exs (sigOf tab) (callN tab (k + n + 1)) [ends_2, ends_3, ends_4] [some (enc (.nd h cs)), some (rowD row), some (.tup (encs cs)), none, none]) N (fun d r => Q d (finE none 2 r)) B K X t := by
  have h4 : cs.length ≤ 4 := by
    have := hw.1
    cases h <;> simp only [Hd.ok] at this <;> omega
  have e0 : 0 ≤ SZ := by decide
  have e1 : rng2q 0 (cs.length : Int) = some (rngq 0 1 cs.length) := rng_len (by omega)
  unfold ends_2 ends_3 ends_4
  exists e0, e1, encs_len
  refine forW (I19 n cs row (.nd h cs)) ⟨[], cs, true, none, rfl, rfl, rfl⟩ ?_ ?_
  · rintro x xs r ⟨done, rest, o, q, h0, h1, rfl⟩
    cases rest with
    | nil => cases h1
    | cons c rest =>
      rw [List.length_cons, rngq_succ] at h1
      obtain ⟨rfl, rfl⟩ := List.cons.inj h1
      have e2 : atq (encs cs) (done.length : Int) = some (enc c) := by rw [atq_nat, h0, encs_at]
      have hb := endsL_le n cs row 0 hw.2
      have hb2 : (4 : Nat) ^ n ≤ 4 ^ 8 := Nat.pow_le_pow_right (by omega) (by omega)
      have hb3 : cs.length * 4 ^ n ≤ 4 * 4 ^ 8 := Nat.mul_le_mul h4 hb2
      have e9 : 4 * 4 ^ 8 ≤ SZ := by decide
      rw [h0, endsL_app, List.length_append, endsL] at hb
      simp only [List.length_append, List.length_cons, Nat.zero_add] at hb
      have e8 : 100 ≤ SZ := by decide
      have e3 : row.length + 1 ≤ SZ := by omega
      have e4 : 0 + 1 ≤ SZ := by decide
      have e5 : (endsL done row 0).length + (ends c (row ++ [(done.length : Int)])).length ≤ SZ := by
        rw [h0, List.length_append, List.length_cons] at hb3; omega
      have hwc : wf n c := wf_at (cs := done) (ds := rest) (by rw [← h0]; exact hw.2)
      have hnx : ∀ q', I19 n cs row (.nd h cs) (rngq (↑done.length + 1) 1 rest.length) [some (enc (.nd h cs)), some (rowD row), some (.tup (encs cs)), some (.lst true ((endsL done row 0 ++ ends c (row ++ [(done.length : Int)])).map rowD)), q'] := by
        intro q'
        refine ⟨done ++ [c], rest, true, q', by rw [h0]; simp, by simp, ?_⟩
        rw [endsL_app, endsL, endsL, Nat.zero_add, List.append_nil]
      cases o with
      | true =>
        trivial
        exists e2, e3, e4, frz_enc, rowD, List.length_map
        rw [rowD_app]
        refine ih c _ _ _ _ hwc (by simp; omega) fun o' => ?_
        exists List.length_map, e5
        rw [← List.map_append]
        exact hnx _
      | false =>
        trivial
        exists e2, e3, e4, frz_enc, rowD, List.length_map
        rw [rowD_app]
        refine ih c _ _ _ _ hwc (by simp; omega) fun o' => ?_
        exists List.length_map, e5
        rw [← List.map_append]
        exact hnx _
  · rintro r ⟨done, rest, o, q, h0, h1, rfl⟩
    cases rest with
    | cons c rest => rw [List.length_cons, rngq_succ] at h1; cases h1
    | nil =>
      have := hQ false
      simp only [ends, h0, List.append_nil] at this
      cases o with
      | true => trivial; exact this
      | false => trivial; exact this
theorem w_ends (k : Nat) : ∀ (n : Nat) (T : Tr) (row : Row) (Q : D → Env → Prop) (X : XC) (t : T2 Q X), n < 10 → wf n T → row.length + n < 100 → (∀ o, Q (.lst o ((ends T row).map rowD)) [none, none]) → W (callN tab (k + n + 1) 19 [enc T, rowD row]) Q X t
  | n, .fin, row, Q, X, t, hn, hw, hr, hQ => by
    refine C19 ?_
    rw [ends_is]
    have e0 : 0 + 1 ≤ SZ := by decide
    unfold ends_0 enc
    exists e0, rowD
    exact hQ true
  | n + 1, .nd (.look a) cs, row, Q, X, t, hn, hw, hr, hQ => by
    rw [show k + (n + 1) + 1 = k + n + 1 + 1 from rfl]
    refine C19 ?_
    rw [ends_is]
    unfold ends_0 ends_1
    have e1 : idx (enc (.nd (.look a) cs)) (.int 0) = some (.str sLook) := by simp only [enc, Hd.node, idx_T, atq_0]
    have e2 : slq (enc (.nd (.look a) cs)) (some 2) none = some (.tup (encs cs)) := by simp only [enc, Hd.node, sl_T, cut_2]
    exists e1, e2, enc_isZ
    have hT := ends_tail (k := k) (n := n) (Q := Q) (X := fun c xs r => X c xs (finE none 2 r)) (N := fun r => Q .non (finE none 2 r)) (B := fun _ => False) (K := fun _ => False) (t := ⟨⟩) (fun T row Q X t => w_ends k n T row Q X t (by omega)) (by omega) hw hr hQ
    rw [WS_cons] at hT
    exact hT
  | n + 1, .nd (.draw x y) cs, row, Q, X, t, hn, hw, hr, hQ => by
    rw [show k + (n + 1) + 1 = k + n + 1 + 1 from rfl]
    refine C19 ?_
    rw [ends_is]
    unfold ends_0 ends_1
    have e1 : idx (enc (.nd (.draw x y) cs)) (.int 0) = some (.str sDraw) := by simp only [enc, Hd.node, idx_T, atq_0]
    have e2 : slq (enc (.nd (.draw x y) cs)) (some 2) none = some (.tup (encs cs)) := by simp only [enc, Hd.node, sl_T, cut_2]
    exists e1, e2, enc_isZ
    have hT := ends_tail (k := k) (n := n) (Q := Q) (X := fun c xs r => X c xs (finE none 2 r)) (N := fun r => Q .non (finE none 2 r)) (B := fun _ => False) (K := fun _ => False) (t := ⟨⟩) (fun T row Q X t => w_ends k n T row Q X t (by omega)) (by omega) hw hr hQ
    rw [WS_cons] at hT
    exact hT
  | n + 1, .nd (.block a m) cs, row, Q, X, t, hn, hw, hr, hQ => by
    rw [show k + (n + 1) + 1 = k + n + 1 + 1 from rfl]
    refine C19 ?_
    rw [ends_is]
    unfold ends_0 ends_1
    have e1 : idx (enc (.nd (.block a m) cs)) (.int 0) = some (.str sBlock) := by simp only [enc, Hd.node, idx_T, atq_0]
    have e2 : idx (enc (.nd (.block a m) cs)) (.int 3) = some (.tup (encs cs)) := by simp only [enc, Hd.node, idx_T, atq_3]
    exists e1, e2, enc_isZ
    have hT := ends_tail (k := k) (n := n) (Q := Q) (X := fun c xs r => X c xs (finE none 2 r)) (N := fun r => Q .non (finE none 2 r)) (B := fun _ => False) (K := fun _ => False) (t := ⟨⟩) (fun T row Q X t => w_ends k n T row Q X t (by omega)) (by omega) hw hr hQ
    rw [WS_cons] at hT
    exact hT
end K84
end
section
set_option maxRecDepth 100000
set_option linter.all false
namespace K84
open Sf
local macro_rules
  | `(tactic| trivial) => `(tactic| simp only [WO_some, WO_none, ↓WO_map, ↓WO_bind, WO_iteN, ↓W_ok, ↓W_bad, ↓W_lift, ↓W_bnd, W_iteBad, W_ite, ↓WS_nx, ↓WS_rt, ↓WS_bk, ↓WS_ct, ↓WS_bad, ↓WS_fin, WS_iteBad, WS_ite, W_ok, W_bad, W_lift, W_bnd,
    ↓w_z, w_pS, w_pN, ↓w_varV, ↓w_var, ↓w_cint, ↓w_cbl, ↓w_cnon, ↓w_cstr, ↓w_bin, ↓w_neg, ↓w_cmp, ↓w_chn, ↓w_not, ↓w_and, ↓w_or, ↓w_one, ↓w_ifx, ↓w_tup, ↓w_lst, ↓w_dic0, ↓w_subV, ↓w_subN, ↓w_slcV, ↓w_slcN, ↓w_call, ↓w_bi, ↓w_bi2, ↓w_isi, ↓w_comp, ↓w_anyA, ↓w_pop0, ↓w_pop1, ↓w_index, ↓w_lrng, ↓w_rng1, ↓w_rng2, ↓w_rng3, ↓w_enm, ↓w_zip, ↓w_iV, ↓w_i_sub, ↓w_i_slc, ↓w_i_call, ↓w_i_tup, ↓w_i_comp,
    w_evs0, w_evs, w_evz0, w_evz, w_evc0, w_evc, ↓w_evo0, w_evo0, w_evo, ↓w_tV, ↓w_tcbl, ↓w_tnot, ↓w_tand, ↓w_tor, ↓w_tone, ↓w_t_cmp, ↓w_t_chn, ↓w_t_call, ↓w_t_sub, ↓w_t_isi, ↓w_t_bi, ↓w_t_bin, w_evts0, w_evts,
    s_nil, s_cons, o_none, o_some, ca_none, ca_some, pm_nil, pm_none, pl_nil, pl_cons, gb_none, gb_some, ↓w_has, isL_some, ↓w_hasL, ↓x_asg, ↓x_asgT, ↓x_par, ↓x_aug, setD_L, ↓x_setx, appD_L, ↓x_app, ↓x_expr, ↓x_ret, ↓x_retN, ↓x_ite, ↓x_whl, ↓x_for, ↓x_brk, ↓x_cnt, ↓x_pass, ↓WS_nil, ↓WS_cons, ↓WS_fF, ↓W_cF,
    bt_nm, bt_tp, pu_nil, pu_cons, pk_z, pk_s, pt_z, pt_s, oz_nil, oz_cons, zq_none, zq_some, wp_nil, wp_cons, bk_nil, bk_cons, fe_none, fe_0, fe_1, jn_some, mv_L, mv_D, mv_non, mv_bl, mv_int, mv_str, mv_tup, mv_F, mv_scr, mv_z,
    q_End_end, q_End_look, q_End_block, q_End_draw, q_End_tell, q_End_choose, q_Look_end, q_Look_look, q_Look_block, q_Look_draw, q_Look_tell, q_Look_choose, q_Block_end, q_Block_look, q_Block_block, q_Block_draw, q_Block_tell, q_Block_choose, q_Draw_end, q_Draw_look, q_Draw_block, q_Draw_draw, q_Draw_tell, q_Draw_choose, q_Tell_end, q_Tell_look, q_Tell_block, q_Tell_draw, q_Tell_tell, q_Tell_choose, cut_2, cut_t2, cut_t3,
    slot_var, slot_bad, slot_cint, slot_cbl, slot_cnon, slot_cstr, slot_bin, slot_neg, slot_cmp, slot_chn, slot_not, slot_and, slot_or, slot_ifx, slot_one, slot_tup, slot_lst, slot_sub, slot_slc, slot_call, slot_bi, slot_bi2, slot_isi, slot_comp, slot_lrng, slot_pop0, slot_pop1, slot_index, simple_var, simple_cint, simple_cbl, simple_cnon, simple_cstr, simple_bin, simple_neg, simple_sub, simple_slc, simple_call, simple_bi, simple_bi2, simple_isi, simple_lst, simple_tup, simple_comp, popD, popI, augop, iteq, itemsq, itemsp, List.getElem?_cons_zero, List.getElem?_cons_succ, List.set_cons_zero, List.set_cons_succ, List.replicate_succ, List.replicate_zero, List.map_cons, List.map_nil, List.cons_append, List.nil_append, List.length_cons, List.length_nil,
    Option.bind_some, Option.bind_none, Option.map_some, Option.map_none, Option.join_some, Option.toList_some, Option.toList_none, id_eq,
    frz_non, frz_bl, frz_int, frz_str, frz_tup, frz_lst, frz_dic, frz_scr, isZ_non, isZ_bl, isZ_int, isZ_str, isZ_tup, isZ_lstT, isZ_lstF, isZ_scr, tru_non, tru_bl, tru_int, tru_tup, tru_lst, asInt_int,
    c_eqI, c_neI, c_eqS, c_eqT, c_ltI, c_leI, c_gtI, c_geI, b_addI, b_subI, b_mulI, b_fdivI, b_modI, b_addL, b_addT, b_addS, b_mulL, sl_L, sl_T, bi_lenT, bi_lenL, bi_lenS, bi_absI, bi_intI, bi_listT, bi_listL, bi_listS, bi_tupT, bi_tupL, idx_T, idx_L, atq_0, atq_1, atq_2, atq_3, ixq_0, ixq_1, ixq_2,
    Nat.reduceSub, Nat.reduceAdd, Nat.reduceEqDiff, Int.reduceNeg, Int.reduceAdd, Int.reduceSub, Int.reduceMul, Int.reduceLT, Int.reduceLE, Option.some.injEq, Nat.reduceLeDiff, Nat.zero_add, List.isEmpty_cons, List.isEmpty_nil,
    if_true, if_false, ite_true, ite_false, ↓reduceIte, decide_eq_true_eq, beq_iff_eq, bne_iff_ne, ne_eq, Bool.not_eq_true', Bool.not_eq_eq_eq_not, Bool.and_true, Bool.true_and, Bool.false_and, Bool.not_true, Bool.not_false, Bool.false_eq_true, reduceCtorEq, and_true, true_and, and_self, bltg, isiq,
    f_is_number, f_nexts_of, f_walk, f_lower, f_hopes, f_follows, f_nested, f_law_pool, f_law_draw, f_law_pick, f_law_shuffled, f_law_same, f_law_fraction, f_law_chance, f_law_tree, f_law_nodes, f_law_plan, f_law_names, f_law_bare, f_law_ends, f_law_with_tells, f_law_marks, f_law,
    sig_0, sig_1, sig_2, sig_3, sig_4, sig_5, sig_6, sig_7, sig_8, sig_9, sig_10, sig_11, sig_12, sig_13, sig_14, sig_15, sig_16, sig_17, sig_18, sig_19, sig_20, sig_21, sig_22])
  | `(tactic| exists $es:term,*) => `(tactic| simp only [WO_some, WO_none, ↓WO_map, ↓WO_bind, WO_iteN, ↓W_ok, ↓W_bad, ↓W_lift, ↓W_bnd, W_iteBad, W_ite, ↓WS_nx, ↓WS_rt, ↓WS_bk, ↓WS_ct, ↓WS_bad, ↓WS_fin, WS_iteBad, WS_ite, W_ok, W_bad, W_lift, W_bnd,
    ↓w_z, w_pS, w_pN, ↓w_varV, ↓w_var, ↓w_cint, ↓w_cbl, ↓w_cnon, ↓w_cstr, ↓w_bin, ↓w_neg, ↓w_cmp, ↓w_chn, ↓w_not, ↓w_and, ↓w_or, ↓w_one, ↓w_ifx, ↓w_tup, ↓w_lst, ↓w_dic0, ↓w_subV, ↓w_subN, ↓w_slcV, ↓w_slcN, ↓w_call, ↓w_bi, ↓w_bi2, ↓w_isi, ↓w_comp, ↓w_anyA, ↓w_pop0, ↓w_pop1, ↓w_index, ↓w_lrng, ↓w_rng1, ↓w_rng2, ↓w_rng3, ↓w_enm, ↓w_zip, ↓w_iV, ↓w_i_sub, ↓w_i_slc, ↓w_i_call, ↓w_i_tup, ↓w_i_comp,
    w_evs0, w_evs, w_evz0, w_evz, w_evc0, w_evc, ↓w_evo0, w_evo0, w_evo, ↓w_tV, ↓w_tcbl, ↓w_tnot, ↓w_tand, ↓w_tor, ↓w_tone, ↓w_t_cmp, ↓w_t_chn, ↓w_t_call, ↓w_t_sub, ↓w_t_isi, ↓w_t_bi, ↓w_t_bin, w_evts0, w_evts,
    s_nil, s_cons, o_none, o_some, ca_none, ca_some, pm_nil, pm_none, pl_nil, pl_cons, gb_none, gb_some, ↓w_has, isL_some, ↓w_hasL, ↓x_asg, ↓x_asgT, ↓x_par, ↓x_aug, setD_L, ↓x_setx, appD_L, ↓x_app, ↓x_expr, ↓x_ret, ↓x_retN, ↓x_ite, ↓x_whl, ↓x_for, ↓x_brk, ↓x_cnt, ↓x_pass, ↓WS_nil, ↓WS_cons, ↓WS_fF, ↓W_cF,
    bt_nm, bt_tp, pu_nil, pu_cons, pk_z, pk_s, pt_z, pt_s, oz_nil, oz_cons, zq_none, zq_some, wp_nil, wp_cons, bk_nil, bk_cons, fe_none, fe_0, fe_1, jn_some, mv_L, mv_D, mv_non, mv_bl, mv_int, mv_str, mv_tup, mv_F, mv_scr, mv_z,
    q_End_end, q_End_look, q_End_block, q_End_draw, q_End_tell, q_End_choose, q_Look_end, q_Look_look, q_Look_block, q_Look_draw, q_Look_tell, q_Look_choose, q_Block_end, q_Block_look, q_Block_block, q_Block_draw, q_Block_tell, q_Block_choose, q_Draw_end, q_Draw_look, q_Draw_block, q_Draw_draw, q_Draw_tell, q_Draw_choose, q_Tell_end, q_Tell_look, q_Tell_block, q_Tell_draw, q_Tell_tell, q_Tell_choose, cut_2, cut_t2, cut_t3,
    slot_var, slot_bad, slot_cint, slot_cbl, slot_cnon, slot_cstr, slot_bin, slot_neg, slot_cmp, slot_chn, slot_not, slot_and, slot_or, slot_ifx, slot_one, slot_tup, slot_lst, slot_sub, slot_slc, slot_call, slot_bi, slot_bi2, slot_isi, slot_comp, slot_lrng, slot_pop0, slot_pop1, slot_index, simple_var, simple_cint, simple_cbl, simple_cnon, simple_cstr, simple_bin, simple_neg, simple_sub, simple_slc, simple_call, simple_bi, simple_bi2, simple_isi, simple_lst, simple_tup, simple_comp, popD, popI, augop, iteq, itemsq, itemsp, List.getElem?_cons_zero, List.getElem?_cons_succ, List.set_cons_zero, List.set_cons_succ, List.replicate_succ, List.replicate_zero, List.map_cons, List.map_nil, List.cons_append, List.nil_append, List.length_cons, List.length_nil,
    Option.bind_some, Option.bind_none, Option.map_some, Option.map_none, Option.join_some, Option.toList_some, Option.toList_none, id_eq,
    frz_non, frz_bl, frz_int, frz_str, frz_tup, frz_lst, frz_dic, frz_scr, isZ_non, isZ_bl, isZ_int, isZ_str, isZ_tup, isZ_lstT, isZ_lstF, isZ_scr, tru_non, tru_bl, tru_int, tru_tup, tru_lst, asInt_int,
    c_eqI, c_neI, c_eqS, c_eqT, c_ltI, c_leI, c_gtI, c_geI, b_addI, b_subI, b_mulI, b_fdivI, b_modI, b_addL, b_addT, b_addS, b_mulL, sl_L, sl_T, bi_lenT, bi_lenL, bi_lenS, bi_absI, bi_intI, bi_listT, bi_listL, bi_listS, bi_tupT, bi_tupL, idx_T, idx_L, atq_0, atq_1, atq_2, atq_3, ixq_0, ixq_1, ixq_2,
    Nat.reduceSub, Nat.reduceAdd, Nat.reduceEqDiff, Int.reduceNeg, Int.reduceAdd, Int.reduceSub, Int.reduceMul, Int.reduceLT, Int.reduceLE, Option.some.injEq, Nat.reduceLeDiff, Nat.zero_add, List.isEmpty_cons, List.isEmpty_nil,
    if_true, if_false, ite_true, ite_false, ↓reduceIte, decide_eq_true_eq, beq_iff_eq, bne_iff_ne, ne_eq, Bool.not_eq_true', Bool.not_eq_eq_eq_not, Bool.and_true, Bool.true_and, Bool.false_and, Bool.not_true, Bool.not_false, Bool.false_eq_true, reduceCtorEq, and_true, true_and, and_self, bltg, isiq,
    f_is_number, f_nexts_of, f_walk, f_lower, f_hopes, f_follows, f_nested, f_law_pool, f_law_draw, f_law_pick, f_law_shuffled, f_law_same, f_law_fraction, f_law_chance, f_law_tree, f_law_nodes, f_law_plan, f_law_names, f_law_bare, f_law_ends, f_law_with_tells, f_law_marks, f_law,
    sig_0, sig_1, sig_2, sig_3, sig_4, sig_5, sig_6, sig_7, sig_8, sig_9, sig_10, sig_11, sig_12, sig_13, sig_14, sig_15, sig_16, sig_17, sig_18, sig_19, sig_20, sig_21, sig_22, $[$es:term],*])
theorem cut_take {α : Type} (xs : List α) (n : Nat) : cut xs none (some (n : Int)) = xs.take n := by
  unfold cut six
  simp only [Nat.sub_zero, List.drop_zero]
  rw [if_neg (by omega)]
  by_cases h : n ≤ xs.length
  · rw [Nat.min_eq_left (by omega)]; rfl
  · rw [Nat.min_eq_right (by omega), List.take_of_length_le (Nat.le_refl _), List.take_of_length_le (by omega)]
theorem cut_drop {α : Type} (xs : List α) (n : Nat) : cut xs (some (n : Int)) none = xs.drop n := by
  unfold cut six
  simp only []
  rw [if_neg (by omega)]
  by_cases h : n ≤ xs.length
  · rw [Nat.min_eq_left (by omega)]
    exact List.take_of_length_le (by rw [List.length_drop]; exact Nat.le_refl _)
  · rw [Nat.min_eq_right (by omega), List.drop_of_length_le (Nat.le_refl _), List.drop_of_length_le (by omega)]
    simp
mutual
def nE : Tr → Nat
  | .fin => 1
  | .nd _ cs => nEs cs
def nEs : List Tr → Nat
  | [] => 0
  | c :: cs => nE c + nEs cs
end
mutual
theorem ends_len : ∀ (T : Tr) (r : Row), (ends T r).length = nE T
  | .fin, r => rfl
  | .nd _ cs, r => by rw [ends, nE]; exact endsL_len cs r 0
theorem endsL_len : ∀ (cs : List Tr) (r : Row) (k : Nat), (endsL cs r k).length = nEs cs
  | [], r, k => rfl
  | c :: cs, r, k => by rw [endsL, nEs, List.length_append, ends_len c, endsL_len cs]
end
theorem nEs_app : ∀ cs ds : List Tr, nEs (cs ++ ds) = nEs cs + nEs ds
  | [], ds => by simp [nEs]
  | c :: cs, ds => by simp only [List.cons_append, nEs, nEs_app cs ds]; omega
inductive TT where
  | tell (t : TT)
  | fin
  | nd (h : Hd) (cs : List TT)
mutual
def encT : TT → D
  | .tell t => .tup [.str sTell, .int 0, encT t]
  | .fin => .tup [.str sEnd]
  | .nd h cs => h.node (encTs cs)
def encTs : List TT → List D
  | [] => []
  | c :: cs => encT c :: encTs cs
end
mutual
def bare : TT → Tr
  | .tell t => bare t
  | .fin => .fin
  | .nd h cs => .nd h (bares cs)
def bares : List TT → List Tr
  | [] => []
  | c :: cs => bare c :: bares cs
end
mutual
def told : TT → List Bool
  | .tell t => List.replicate (nE (bare t)) true
  | .fin => [false]
  | .nd _ cs => tolds cs
def tolds : List TT → List Bool
  | [] => []
  | c :: cs => told c ++ tolds cs
end
mutual
def upT : Tr → TT
  | .fin => .fin
  | .nd h cs => .nd h (upTs cs)
def upTs : List Tr → List TT
  | [] => []
  | c :: cs => upT c :: upTs cs
end
mutual
theorem bare_up : ∀ T : Tr, bare (upT T) = T
  | .fin => rfl
  | .nd h cs => by rw [upT, bare, bares_up cs]
theorem bares_up : ∀ cs : List Tr, bares (upTs cs) = cs
  | [] => rfl
  | c :: cs => by rw [upTs, bares, bare_up c, bares_up cs]
end
mutual
theorem encT_up : ∀ T : Tr, encT (upT T) = enc T
  | .fin => rfl
  | .nd h cs => by rw [upT, encT, encTs_up cs, enc]
theorem encTs_up : ∀ cs : List Tr, encTs (upTs cs) = encs cs
  | [] => rfl
  | c :: cs => by rw [upTs, encTs, encT_up c, encTs_up cs, encs]
end
mutual
/-- well formed, at most so deep -/
def df : Nat → TT → Prop
  | _, .fin => True
  | 0, .tell _ => False
  | 0, .nd _ _ => False
  | n + 1, .tell c => df n c
  | n + 1, .nd h cs => h.ok cs.length ∧ dfs n cs
def dfs : Nat → List TT → Prop
  | _, [] => True
  | n, c :: cs => df n c ∧ dfs n cs
end
theorem upTs_len : ∀ cs : List Tr, (upTs cs).length = cs.length
  | [] => rfl
  | _ :: cs => by rw [upTs, List.length_cons, List.length_cons, upTs_len cs]
mutual
theorem df_up : ∀ (n : Nat) (T : Tr), wf n T → df n (upT T)
  | 0, .fin, _ => True.intro
  | _ + 1, .fin, _ => True.intro
  | n + 1, .nd h cs, hw => ⟨by rw [upTs_len]; exact hw.1, dfs_up n cs hw.2⟩
theorem dfs_up : ∀ (n : Nat) (cs : List Tr), wfs n cs → dfs n (upTs cs)
  | _, [], _ => True.intro
  | n, c :: cs, hw => ⟨df_up n c hw.1, dfs_up n cs hw.2⟩
end
theorem dfs_app {n : Nat} : ∀ {ts us : List TT}, dfs n ts → dfs n us → dfs n (ts ++ us)
  | [], _, _, h => h
  | _ :: ts, us, h, h2 => by
    simp only [dfs, List.cons_append] at h ⊢
    exact ⟨h.1, dfs_app h.2 h2⟩
theorem bares_app : ∀ cs ds : List TT, bares (cs ++ ds) = bares cs ++ bares ds
  | [], ds => rfl
  | c :: cs, ds => by simp only [List.cons_append, bares, bares_app cs ds]
theorem tolds_app : ∀ cs ds : List TT, tolds (cs ++ ds) = tolds cs ++ tolds ds
  | [], ds => rfl
  | c :: cs, ds => by simp only [List.cons_append, tolds, tolds_app cs ds, List.append_assoc]
theorem encTs_app : ∀ cs ds : List TT, encTs (cs ++ ds) = encTs cs ++ encTs ds
  | [], ds => rfl
  | c :: cs, ds => by simp only [List.cons_append, encTs, encTs_app cs ds]
theorem encT_tup : ∀ T : TT, ∃ xs, encT T = .tup xs
  | .fin => ⟨_, rfl⟩
  | .tell _ => ⟨_, rfl⟩
  | .nd h cs => by cases h <;> exact ⟨_, rfl⟩
theorem frz_encT (T : TT) : (encT T).frz = encT T := by
  obtain ⟨xs, e⟩ := encT_tup T
  rw [e]; rfl
theorem encT_isZ (T : TT) : (encT T).isZ = true := by
  obtain ⟨xs, e⟩ := encT_tup T
  rw [e]; rfl
theorem hasD_bl (b : Bool) : ∀ xs : List Bool, hasD (.bl b) (xs.map .bl) = xs.contains b
  | [] => rfl
  | x :: xs => by
    have := hasD_bl b xs
    unfold hasD at this ⊢
    rw [List.map_cons, List.any_cons, this, List.contains_cons]
    simp only [D.eqv]
    cases x <;> cases b <;> rfl
theorem bl_flat : ∀ xs : List Bool, (xs.map D.bl).all D.flat = true
  | [] => rfl
  | _ :: xs => by rw [List.map_cons, List.all_cons, bl_flat xs]; rfl
theorem notin_bl (b o : Bool) (xs : List Bool) : cmpop .notin (.bl b) (.lst o (xs.map .bl)) = some !xs.contains b := by
  show (if (D.bl b).flat && (xs.map D.bl).all D.flat then some (!hasD (.bl b) (xs.map .bl)) else none) = _
  rw [bl_flat, hasD_bl]; rfl
theorem isin_bl (b o : Bool) (xs : List Bool) : cmpop .isin (.bl b) (.lst o (xs.map .bl)) = some (xs.contains b) := by
  show (if (D.bl b).flat && (xs.map D.bl).all D.flat then some (hasD (.bl b) (xs.map .bl)) else none) = _
  rw [bl_flat, hasD_bl]; rfl
end K84
end
section
set_option maxRecDepth 100000
set_option linter.all false
namespace K84
open Sf
local macro_rules
  | `(tactic| trivial) => `(tactic| simp only [WO_some, WO_none, ↓WO_map, ↓WO_bind, WO_iteN, ↓W_ok, ↓W_bad, ↓W_lift, ↓W_bnd, W_iteBad, W_ite, ↓WS_nx, ↓WS_rt, ↓WS_bk, ↓WS_ct, ↓WS_bad, ↓WS_fin, WS_iteBad, WS_ite, W_ok, W_bad, W_lift, W_bnd,
    ↓w_z, w_pS, w_pN, ↓w_varV, ↓w_var, ↓w_cint, ↓w_cbl, ↓w_cnon, ↓w_cstr, ↓w_bin, ↓w_neg, ↓w_cmp, ↓w_chn, ↓w_not, ↓w_and, ↓w_or, ↓w_one, ↓w_ifx, ↓w_tup, ↓w_lst, ↓w_dic0, ↓w_subV, ↓w_subN, ↓w_slcV, ↓w_slcN, ↓w_call, ↓w_bi, ↓w_bi2, ↓w_isi, ↓w_comp, ↓w_anyA, ↓w_pop0, ↓w_pop1, ↓w_index, ↓w_lrng, ↓w_rng1, ↓w_rng2, ↓w_rng3, ↓w_enm, ↓w_zip, ↓w_iV, ↓w_i_sub, ↓w_i_slc, ↓w_i_call, ↓w_i_tup, ↓w_i_comp,
    w_evs0, w_evs, w_evz0, w_evz, w_evc0, w_evc, ↓w_evo0, w_evo0, w_evo, ↓w_tV, ↓w_tcbl, ↓w_tnot, ↓w_tand, ↓w_tor, ↓w_tone, ↓w_t_cmp, ↓w_t_chn, ↓w_t_call, ↓w_t_sub, ↓w_t_isi, ↓w_t_bi, ↓w_t_bin, w_evts0, w_evts,
    s_nil, s_cons, o_none, o_some, ca_none, ca_some, pm_nil, pm_none, pl_nil, pl_cons, gb_none, gb_some, ↓w_has, isL_some, ↓w_hasL, ↓x_asg, ↓x_asgT, ↓x_par, ↓x_aug, setD_L, ↓x_setx, appD_L, ↓x_app, ↓x_expr, ↓x_ret, ↓x_retN, ↓x_ite, ↓x_whl, ↓x_for, ↓x_brk, ↓x_cnt, ↓x_pass, ↓WS_nil, ↓WS_cons, ↓WS_fF, ↓W_cF,
    bt_nm, bt_tp, pu_nil, pu_cons, pk_z, pk_s, pt_z, pt_s, oz_nil, oz_cons, zq_none, zq_some, wp_nil, wp_cons, bk_nil, bk_cons, fe_none, fe_0, fe_1, jn_some, mv_L, mv_D, mv_non, mv_bl, mv_int, mv_str, mv_tup, mv_F, mv_scr, mv_z,
    q_End_end, q_End_look, q_End_block, q_End_draw, q_End_tell, q_End_choose, q_Look_end, q_Look_look, q_Look_block, q_Look_draw, q_Look_tell, q_Look_choose, q_Block_end, q_Block_look, q_Block_block, q_Block_draw, q_Block_tell, q_Block_choose, q_Draw_end, q_Draw_look, q_Draw_block, q_Draw_draw, q_Draw_tell, q_Draw_choose, q_Tell_end, q_Tell_look, q_Tell_block, q_Tell_draw, q_Tell_tell, q_Tell_choose, cut_2, cut_t2, cut_t3,
    slot_var, slot_bad, slot_cint, slot_cbl, slot_cnon, slot_cstr, slot_bin, slot_neg, slot_cmp, slot_chn, slot_not, slot_and, slot_or, slot_ifx, slot_one, slot_tup, slot_lst, slot_sub, slot_slc, slot_call, slot_bi, slot_bi2, slot_isi, slot_comp, slot_lrng, slot_pop0, slot_pop1, slot_index, simple_var, simple_cint, simple_cbl, simple_cnon, simple_cstr, simple_bin, simple_neg, simple_sub, simple_slc, simple_call, simple_bi, simple_bi2, simple_isi, simple_lst, simple_tup, simple_comp, popD, popI, augop, iteq, itemsq, itemsp, List.getElem?_cons_zero, List.getElem?_cons_succ, List.set_cons_zero, List.set_cons_succ, List.replicate_succ, List.replicate_zero, List.map_cons, List.map_nil, List.cons_append, List.nil_append, List.length_cons, List.length_nil,
    Option.bind_some, Option.bind_none, Option.map_some, Option.map_none, Option.join_some, Option.toList_some, Option.toList_none, id_eq,
    frz_non, frz_bl, frz_int, frz_str, frz_tup, frz_lst, frz_dic, frz_scr, isZ_non, isZ_bl, isZ_int, isZ_str, isZ_tup, isZ_lstT, isZ_lstF, isZ_scr, tru_non, tru_bl, tru_int, tru_tup, tru_lst, asInt_int,
    c_eqI, c_neI, c_eqS, c_eqT, c_ltI, c_leI, c_gtI, c_geI, b_addI, b_subI, b_mulI, b_fdivI, b_modI, b_addL, b_addT, b_addS, b_mulL, sl_L, sl_T, bi_lenT, bi_lenL, bi_lenS, bi_absI, bi_intI, bi_listT, bi_listL, bi_listS, bi_tupT, bi_tupL, idx_T, idx_L, atq_0, atq_1, atq_2, atq_3, ixq_0, ixq_1, ixq_2,
    Nat.reduceSub, Nat.reduceAdd, Nat.reduceEqDiff, Int.reduceNeg, Int.reduceAdd, Int.reduceSub, Int.reduceMul, Int.reduceLT, Int.reduceLE, Option.some.injEq, Nat.reduceLeDiff, Nat.zero_add, List.isEmpty_cons, List.isEmpty_nil,
    if_true, if_false, ite_true, ite_false, ↓reduceIte, decide_eq_true_eq, beq_iff_eq, bne_iff_ne, ne_eq, Bool.not_eq_true', Bool.not_eq_eq_eq_not, Bool.and_true, Bool.true_and, Bool.false_and, Bool.not_true, Bool.not_false, Bool.false_eq_true, reduceCtorEq, and_true, true_and, and_self, bltg, isiq,
    f_is_number, f_nexts_of, f_walk, f_lower, f_hopes, f_follows, f_nested, f_law_pool, f_law_draw, f_law_pick, f_law_shuffled, f_law_same, f_law_fraction, f_law_chance, f_law_tree, f_law_nodes, f_law_plan, f_law_names, f_law_bare, f_law_ends, f_law_with_tells, f_law_marks, f_law,
    sig_0, sig_1, sig_2, sig_3, sig_4, sig_5, sig_6, sig_7, sig_8, sig_9, sig_10, sig_11, sig_12, sig_13, sig_14, sig_15, sig_16, sig_17, sig_18, sig_19, sig_20, sig_21, sig_22])
  | `(tactic| exists $es:term,*) => `(tactic| simp only [WO_some, WO_none, ↓WO_map, ↓WO_bind, WO_iteN, ↓W_ok, ↓W_bad, ↓W_lift, ↓W_bnd, W_iteBad, W_ite, ↓WS_nx, ↓WS_rt, ↓WS_bk, ↓WS_ct, ↓WS_bad, ↓WS_fin, WS_iteBad, WS_ite, W_ok, W_bad, W_lift, W_bnd,
    ↓w_z, w_pS, w_pN, ↓w_varV, ↓w_var, ↓w_cint, ↓w_cbl, ↓w_cnon, ↓w_cstr, ↓w_bin, ↓w_neg, ↓w_cmp, ↓w_chn, ↓w_not, ↓w_and, ↓w_or, ↓w_one, ↓w_ifx, ↓w_tup, ↓w_lst, ↓w_dic0, ↓w_subV, ↓w_subN, ↓w_slcV, ↓w_slcN, ↓w_call, ↓w_bi, ↓w_bi2, ↓w_isi, ↓w_comp, ↓w_anyA, ↓w_pop0, ↓w_pop1, ↓w_index, ↓w_lrng, ↓w_rng1, ↓w_rng2, ↓w_rng3, ↓w_enm, ↓w_zip, ↓w_iV, ↓w_i_sub, ↓w_i_slc, ↓w_i_call, ↓w_i_tup, ↓w_i_comp,
    w_evs0, w_evs, w_evz0, w_evz, w_evc0, w_evc, ↓w_evo0, w_evo0, w_evo, ↓w_tV, ↓w_tcbl, ↓w_tnot, ↓w_tand, ↓w_tor, ↓w_tone, ↓w_t_cmp, ↓w_t_chn, ↓w_t_call, ↓w_t_sub, ↓w_t_isi, ↓w_t_bi, ↓w_t_bin, w_evts0, w_evts,
    s_nil, s_cons, o_none, o_some, ca_none, ca_some, pm_nil, pm_none, pl_nil, pl_cons, gb_none, gb_some, ↓w_has, isL_some, ↓w_hasL, ↓x_asg, ↓x_asgT, ↓x_par, ↓x_aug, setD_L, ↓x_setx, appD_L, ↓x_app, ↓x_expr, ↓x_ret, ↓x_retN, ↓x_ite, ↓x_whl, ↓x_for, ↓x_brk, ↓x_cnt, ↓x_pass, ↓WS_nil, ↓WS_cons, ↓WS_fF, ↓W_cF,
    bt_nm, bt_tp, pu_nil, pu_cons, pk_z, pk_s, pt_z, pt_s, oz_nil, oz_cons, zq_none, zq_some, wp_nil, wp_cons, bk_nil, bk_cons, fe_none, fe_0, fe_1, jn_some, mv_L, mv_D, mv_non, mv_bl, mv_int, mv_str, mv_tup, mv_F, mv_scr, mv_z,
    q_End_end, q_End_look, q_End_block, q_End_draw, q_End_tell, q_End_choose, q_Look_end, q_Look_look, q_Look_block, q_Look_draw, q_Look_tell, q_Look_choose, q_Block_end, q_Block_look, q_Block_block, q_Block_draw, q_Block_tell, q_Block_choose, q_Draw_end, q_Draw_look, q_Draw_block, q_Draw_draw, q_Draw_tell, q_Draw_choose, q_Tell_end, q_Tell_look, q_Tell_block, q_Tell_draw, q_Tell_tell, q_Tell_choose, cut_2, cut_t2, cut_t3,
    slot_var, slot_bad, slot_cint, slot_cbl, slot_cnon, slot_cstr, slot_bin, slot_neg, slot_cmp, slot_chn, slot_not, slot_and, slot_or, slot_ifx, slot_one, slot_tup, slot_lst, slot_sub, slot_slc, slot_call, slot_bi, slot_bi2, slot_isi, slot_comp, slot_lrng, slot_pop0, slot_pop1, slot_index, simple_var, simple_cint, simple_cbl, simple_cnon, simple_cstr, simple_bin, simple_neg, simple_sub, simple_slc, simple_call, simple_bi, simple_bi2, simple_isi, simple_lst, simple_tup, simple_comp, popD, popI, augop, iteq, itemsq, itemsp, List.getElem?_cons_zero, List.getElem?_cons_succ, List.set_cons_zero, List.set_cons_succ, List.replicate_succ, List.replicate_zero, List.map_cons, List.map_nil, List.cons_append, List.nil_append, List.length_cons, List.length_nil,
    Option.bind_some, Option.bind_none, Option.map_some, Option.map_none, Option.join_some, Option.toList_some, Option.toList_none, id_eq,
    frz_non, frz_bl, frz_int, frz_str, frz_tup, frz_lst, frz_dic, frz_scr, isZ_non, isZ_bl, isZ_int, isZ_str, isZ_tup, isZ_lstT, isZ_lstF, isZ_scr, tru_non, tru_bl, tru_int, tru_tup, tru_lst, asInt_int,
    c_eqI, c_neI, c_eqS, c_eqT, c_ltI, c_leI, c_gtI, c_geI, b_addI, b_subI, b_mulI, b_fdivI, b_modI, b_addL, b_addT, b_addS, b_mulL, sl_L, sl_T, bi_lenT, bi_lenL, bi_lenS, bi_absI, bi_intI, bi_listT, bi_listL, bi_listS, bi_tupT, bi_tupL, idx_T, idx_L, atq_0, atq_1, atq_2, atq_3, ixq_0, ixq_1, ixq_2,
    Nat.reduceSub, Nat.reduceAdd, Nat.reduceEqDiff, Int.reduceNeg, Int.reduceAdd, Int.reduceSub, Int.reduceMul, Int.reduceLT, Int.reduceLE, Option.some.injEq, Nat.reduceLeDiff, Nat.zero_add, List.isEmpty_cons, List.isEmpty_nil,
    if_true, if_false, ite_true, ite_false, ↓reduceIte, decide_eq_true_eq, beq_iff_eq, bne_iff_ne, ne_eq, Bool.not_eq_true', Bool.not_eq_eq_eq_not, Bool.and_true, Bool.true_and, Bool.false_and, Bool.not_true, Bool.not_false, Bool.false_eq_true, reduceCtorEq, and_true, true_and, and_self, bltg, isiq,
    f_is_number, f_nexts_of, f_walk, f_lower, f_hopes, f_follows, f_nested, f_law_pool, f_law_draw, f_law_pick, f_law_shuffled, f_law_same, f_law_fraction, f_law_chance, f_law_tree, f_law_nodes, f_law_plan, f_law_names, f_law_bare, f_law_ends, f_law_with_tells, f_law_marks, f_law,
    sig_0, sig_1, sig_2, sig_3, sig_4, sig_5, sig_6, sig_7, sig_8, sig_9, sig_10, sig_11, sig_12, sig_13, sig_14, sig_15, sig_16, sig_17, sig_18, sig_19, sig_20, sig_21, sig_22, $[$es:term],*])
theorem encTs_len : ∀ ts : List TT, (encTs ts).length = ts.length
  | [] => rfl
  | _ :: ts => by simp only [encTs, List.length_cons, encTs_len ts]
theorem bares_len : ∀ ts : List TT, (bares ts).length = ts.length
  | [] => rfl
  | _ :: ts => by simp only [bares, List.length_cons, bares_len ts]
theorem lt4 {n : Nat} {h : Hd} {cs : List Tr} (hw : wf (n + 1) (.nd h cs)) : cs.length ≤ 4 := by
  have := hw.1
  cases h <;> simp only [Hd.ok] at this <;> omega
def I20 (n : Nat) (h : Hd) (cs : List Tr) (M : List Bool) (tl many left : D) (xs : List D) (r : Env) : Prop := ∃ (done rest : List Tr) (us : List TT) (p : List D) (o o2 : Bool) (q q2 : Option D), Pl p ∧ cs = done ++ rest ∧ xs = encs rest ∧ dfs (n + 1) us ∧ bares us = done ∧ tolds us = M.take (nEs done) ∧
  r = [some (.lst true p), some (enc (.nd h cs)), some tl, some many, some (.lst o ((M.drop (nEs done)).map .bl)), some left, some (.tup (encs cs)), some (.lst true (encTs us)), q, q2]
theorem tells_rest {k n : Nat} (ih : ∀ (T : Tr) (p : List D) (tells : List Bool) (Q : D → Env → Prop) (X : XC) (t : T2 Q X), wf n T → Pl p → nE T ≤ tells.length → (∀ (U : TT) p', df (n + 1) U → bare U = T → told U = tells.take (nE T) → Pl p' → Q (.tup [encT U, .lst false ((tells.drop (nE T)).map .bl)]) [some (.lst true p'), none, none]) → W (callN tab (k + n + 2) 20 [.lst true p, enc T, .lst false (tells.map .bl)]) Q X t)
    {h : Hd} {cs : List Tr} {M L : List Bool} {p : List D} {tl many : D} {Q : D → Env → Prop} {N : Env → Prop} {B K : Env → Prop} {X : XC} {t} (hp : Pl p) (hw : wf (n + 1) (.nd h cs)) (hM : M.length = nEs cs)
    (hQ : ∀ (U : TT) p', df (n + 2) U → bare U = .nd h cs → told U = M → Pl p' → Q (.tup [encT U, .lst false (L.map .bl)]) [some (.lst true p'), none, none]) :
    WS (exs (sigOf tab) (callN tab (k + n + 2)) [with_tells_3, with_tells_4, with_tells_5, with_tells_6] [some (.lst true p), some (enc (.nd h cs)), some tl, some many, some (.lst true (M.map .bl)), some (.lst true (L.map .bl)), none, none, none, none]) N (fun d r => Q d (finE (some 0) 3 r)) B K X t := by
  have h4 := lt4 hw
  have e0 : 0 ≤ SZ := by decide
  have eb : 100 ≤ SZ := by decide
  have e1 : WS (exs (sigOf tab) (callN tab (k + n + 2)) [with_tells_5, with_tells_6] [some (.lst true p), some (enc (.nd h cs)), some tl, some many, some (.lst true (M.map .bl)), some (.lst true (L.map .bl)), some (.tup (encs cs)), some (.lst true []), none, none]) N (fun d r => Q d (finE (some 0) 3 r)) B K X ⟨⟩ := by
    unfold with_tells_5
    trivial
    refine forW (I20 n h cs M tl many (.lst true (L.map .bl))) ⟨[], cs, [], p, true, true, none, none, hp, rfl, rfl, True.intro, rfl, rfl, rfl⟩ ?_ ?_
    · rintro x xs r ⟨done, rest, us, p, o, o2, q, q2, hp, h1, h2, hdf, h3, h5, rfl⟩
      cases rest with
      | nil => cases h2
      | cons c rest =>
        rw [encs] at h2
        obtain ⟨rfl, rfl⟩ := List.cons.inj h2
        have hwc : wf n c := wf_at (cs := done) (ds := rest) (by rw [← h1]; exact hw.2)
        have hsum : nEs cs = nEs done + (nE c + nEs rest) := by rw [h1, nEs_app, nEs]
        have hus : us.length + (rest.length + 1) = cs.length := by rw [h1, ← h3, List.length_append, bares_len, List.length_cons]
        have e3 : (encTs us).length < SZ := by rw [encTs_len]; omega
        have hnext : ∀ (U : TT) p' q, df (n + 1) U → bare U = c → told U = (M.drop (nEs done)).take (nE c) → Pl p' → I20 n h cs M tl many (.lst true (L.map .bl)) (encs rest) [some (.lst true p'), some (enc (.nd h cs)), some tl, some many, some (.lst false (((M.drop (nEs done)).drop (nE c)).map .bl)), some (.lst true (L.map .bl)), some (.tup (encs cs)), some (.lst true (encTs us ++ [encT U])), some (enc c), q] := by
          intro U p' q hUd hU1 hU2 hp'
          refine ⟨done ++ [c], rest, us ++ [U], p', false, true, some (enc c), q, hp', by rw [h1]; simp, rfl, dfs_app hdf ⟨hUd, True.intro⟩, ?_, ?_, ?_⟩
          · rw [bares_app, h3, bares, bares, hU1]
          · rw [tolds_app, h5, tolds, tolds, hU2, nEs_app, nEs, nEs, List.append_nil, Nat.add_zero, ← List.take_add]
          · rw [nEs_app, nEs, nEs, Nat.add_zero, List.drop_drop, encTs_app]
            rfl
        cases o <;>
        · trivial
          exists frz_enc, enc_isZ
          refine ih c _ _ _ _ _ hwc hp (by rw [List.length_drop]; omega) fun U p' hUd hU1 hU2 hp' => ?_
          exists frz_encT, encT_isZ, e3
          exact hnext U p' _ hUd hU1 hU2 hp'
    · rintro r ⟨done, rest, us, p, o, o2, q, q2, hp, h1, h2, hdf, h3, h5, rfl⟩
      cases rest with
      | cons c rest => cases h2
      | nil =>
        rw [List.append_nil] at h1
        subst h1
        have hU := hQ (.nd h us) p ⟨by have := hw.1; rw [← h3, bares_len] at this; exact this, hdf⟩ (by rw [bare, h3]) (by rw [told, h5, ← hM]; exact List.take_length) hp
        unfold with_tells_6
        have hl : us.length ≤ 4 := by rw [← bares_len, h3]; exact h4
        have e4 : 1 + 1 + (encTs us).length ≤ SZ := by rw [encTs_len]; omega
        have e5 : 1 + 1 + 1 + 1 ≤ SZ := by omega
        have e6 : 1 + 1 ≤ SZ := by omega
        have e7 : 1 ≤ SZ := by omega
        cases h with
        | look a =>
          have f1 : idx (enc (.nd (.look a) cs)) (.int 0) = some (.str sLook) := by simp only [enc, Hd.node, idx_T, atq_0]
          have f2 : slq (enc (.nd (.look a) cs)) none (some 2) = some (.tup [.str sLook, .int a]) := by simp only [enc, Hd.node, sl_T, cut_t2]
          exists f1, f2, e4, e6
          exact hU
        | draw x y =>
          have f1 : idx (enc (.nd (.draw x y) cs)) (.int 0) = some (.str sDraw) := by simp only [enc, Hd.node, idx_T, atq_0]
          have f2 : slq (enc (.nd (.draw x y) cs)) none (some 2) = some (.tup [.str sDraw, .tup [.int x, .int y]]) := by simp only [enc, Hd.node, sl_T, cut_t2]
          exists f1, f2, e4, e6
          exact hU
        | block a m =>
          have f1 : idx (enc (.nd (.block a m) cs)) (.int 0) = some (.str sBlock) := by simp only [enc, Hd.node, idx_T, atq_0]
          have f2 : slq (enc (.nd (.block a m) cs)) none (some 3) = some (.tup [.str sBlock, .int a, .int m]) := by simp only [enc, Hd.node, sl_T, cut_t3]
          exists f1, f2, e5, e6, e7
          exact hU
  unfold with_tells_3 with_tells_4
  cases h with
  | look a =>
    have f1 : idx (enc (.nd (.look a) cs)) (.int 0) = some (.str sLook) := by simp only [enc, Hd.node, idx_T, atq_0]
    have f2 : slq (enc (.nd (.look a) cs)) (some 2) none = some (.tup (encs cs)) := by simp only [enc, Hd.node, sl_T, cut_2]
    rw [WS_cons] at e1
    exists f1, f2, e0
    exact e1
  | draw x y =>
    have f1 : idx (enc (.nd (.draw x y) cs)) (.int 0) = some (.str sDraw) := by simp only [enc, Hd.node, idx_T, atq_0]
    have f2 : slq (enc (.nd (.draw x y) cs)) (some 2) none = some (.tup (encs cs)) := by simp only [enc, Hd.node, sl_T, cut_2]
    rw [WS_cons] at e1
    exists f1, f2, e0
    exact e1
  | block a m =>
    have f1 : idx (enc (.nd (.block a m) cs)) (.int 0) = some (.str sBlock) := by simp only [enc, Hd.node, idx_T, atq_0]
    have f2 : idx (enc (.nd (.block a m) cs)) (.int 3) = some (.tup (encs cs)) := by simp only [enc, Hd.node, idx_T, atq_3]
    rw [WS_cons] at e1
    exists f1, f2, e0
    exact e1
end K84
end
section
set_option maxRecDepth 100000
set_option linter.all false
namespace K84
open Sf
local macro_rules
  | `(tactic| trivial) => `(tactic| simp only [WO_some, WO_none, ↓WO_map, ↓WO_bind, WO_iteN, ↓W_ok, ↓W_bad, ↓W_lift, ↓W_bnd, W_iteBad, W_ite, ↓WS_nx, ↓WS_rt, ↓WS_bk, ↓WS_ct, ↓WS_bad, ↓WS_fin, WS_iteBad, WS_ite, W_ok, W_bad, W_lift, W_bnd,
    ↓w_z, w_pS, w_pN, ↓w_varV, ↓w_var, ↓w_cint, ↓w_cbl, ↓w_cnon, ↓w_cstr, ↓w_bin, ↓w_neg, ↓w_cmp, ↓w_chn, ↓w_not, ↓w_and, ↓w_or, ↓w_one, ↓w_ifx, ↓w_tup, ↓w_lst, ↓w_dic0, ↓w_subV, ↓w_subN, ↓w_slcV, ↓w_slcN, ↓w_call, ↓w_bi, ↓w_bi2, ↓w_isi, ↓w_comp, ↓w_anyA, ↓w_pop0, ↓w_pop1, ↓w_index, ↓w_lrng, ↓w_rng1, ↓w_rng2, ↓w_rng3, ↓w_enm, ↓w_zip, ↓w_iV, ↓w_i_sub, ↓w_i_slc, ↓w_i_call, ↓w_i_tup, ↓w_i_comp,
    w_evs0, w_evs, w_evz0, w_evz, w_evc0, w_evc, ↓w_evo0, w_evo0, w_evo, ↓w_tV, ↓w_tcbl, ↓w_tnot, ↓w_tand, ↓w_tor, ↓w_tone, ↓w_t_cmp, ↓w_t_chn, ↓w_t_call, ↓w_t_sub, ↓w_t_isi, ↓w_t_bi, ↓w_t_bin, w_evts0, w_evts,
    s_nil, s_cons, o_none, o_some, ca_none, ca_some, pm_nil, pm_none, pl_nil, pl_cons, gb_none, gb_some, ↓w_has, isL_some, ↓w_hasL, ↓x_asg, ↓x_asgT, ↓x_par, ↓x_aug, setD_L, ↓x_setx, appD_L, ↓x_app, ↓x_expr, ↓x_ret, ↓x_retN, ↓x_ite, ↓x_whl, ↓x_for, ↓x_brk, ↓x_cnt, ↓x_pass, ↓WS_nil, ↓WS_cons, ↓WS_fF, ↓W_cF,
    bt_nm, bt_tp, pu_nil, pu_cons, pk_z, pk_s, pt_z, pt_s, oz_nil, oz_cons, zq_none, zq_some, wp_nil, wp_cons, bk_nil, bk_cons, fe_none, fe_0, fe_1, jn_some, mv_L, mv_D, mv_non, mv_bl, mv_int, mv_str, mv_tup, mv_F, mv_scr, mv_z,
    q_End_end, q_End_look, q_End_block, q_End_draw, q_End_tell, q_End_choose, q_Look_end, q_Look_look, q_Look_block, q_Look_draw, q_Look_tell, q_Look_choose, q_Block_end, q_Block_look, q_Block_block, q_Block_draw, q_Block_tell, q_Block_choose, q_Draw_end, q_Draw_look, q_Draw_block, q_Draw_draw, q_Draw_tell, q_Draw_choose, q_Tell_end, q_Tell_look, q_Tell_block, q_Tell_draw, q_Tell_tell, q_Tell_choose, cut_2, cut_t2, cut_t3,
    slot_var, slot_bad, slot_cint, slot_cbl, slot_cnon, slot_cstr, slot_bin, slot_neg, slot_cmp, slot_chn, slot_not, slot_and, slot_or, slot_ifx, slot_one, slot_tup, slot_lst, slot_sub, slot_slc, slot_call, slot_bi, slot_bi2, slot_isi, slot_comp, slot_lrng, slot_pop0, slot_pop1, slot_index, simple_var, simple_cint, simple_cbl, simple_cnon, simple_cstr, simple_bin, simple_neg, simple_sub, simple_slc, simple_call, simple_bi, simple_bi2, simple_isi, simple_lst, simple_tup, simple_comp, popD, popI, augop, iteq, itemsq, itemsp, List.getElem?_cons_zero, List.getElem?_cons_succ, List.set_cons_zero, List.set_cons_succ, List.replicate_succ, List.replicate_zero, List.map_cons, List.map_nil, List.cons_append, List.nil_append, List.length_cons, List.length_nil,
    Option.bind_some, Option.bind_none, Option.map_some, Option.map_none, Option.join_some, Option.toList_some, Option.toList_none, id_eq,
    frz_non, frz_bl, frz_int, frz_str, frz_tup, frz_lst, frz_dic, frz_scr, isZ_non, isZ_bl, isZ_int, isZ_str, isZ_tup, isZ_lstT, isZ_lstF, isZ_scr, tru_non, tru_bl, tru_int, tru_tup, tru_lst, asInt_int,
    c_eqI, c_neI, c_eqS, c_eqT, c_ltI, c_leI, c_gtI, c_geI, b_addI, b_subI, b_mulI, b_fdivI, b_modI, b_addL, b_addT, b_addS, b_mulL, sl_L, sl_T, bi_lenT, bi_lenL, bi_lenS, bi_absI, bi_intI, bi_listT, bi_listL, bi_listS, bi_tupT, bi_tupL, idx_T, idx_L, atq_0, atq_1, atq_2, atq_3, ixq_0, ixq_1, ixq_2,
    Nat.reduceSub, Nat.reduceAdd, Nat.reduceEqDiff, Int.reduceNeg, Int.reduceAdd, Int.reduceSub, Int.reduceMul, Int.reduceLT, Int.reduceLE, Option.some.injEq, Nat.reduceLeDiff, Nat.zero_add, List.isEmpty_cons, List.isEmpty_nil,
    if_true, if_false, ite_true, ite_false, ↓reduceIte, decide_eq_true_eq, beq_iff_eq, bne_iff_ne, ne_eq, Bool.not_eq_true', Bool.not_eq_eq_eq_not, Bool.and_true, Bool.true_and, Bool.false_and, Bool.not_true, Bool.not_false, Bool.false_eq_true, reduceCtorEq, and_true, true_and, and_self, bltg, isiq,
    f_is_number, f_nexts_of, f_walk, f_lower, f_hopes, f_follows, f_nested, f_law_pool, f_law_draw, f_law_pick, f_law_shuffled, f_law_same, f_law_fraction, f_law_chance, f_law_tree, f_law_nodes, f_law_plan, f_law_names, f_law_bare, f_law_ends, f_law_with_tells, f_law_marks, f_law,
    sig_0, sig_1, sig_2, sig_3, sig_4, sig_5, sig_6, sig_7, sig_8, sig_9, sig_10, sig_11, sig_12, sig_13, sig_14, sig_15, sig_16, sig_17, sig_18, sig_19, sig_20, sig_21, sig_22])
  | `(tactic| exists $es:term,*) => `(tactic| simp only [WO_some, WO_none, ↓WO_map, ↓WO_bind, WO_iteN, ↓W_ok, ↓W_bad, ↓W_lift, ↓W_bnd, W_iteBad, W_ite, ↓WS_nx, ↓WS_rt, ↓WS_bk, ↓WS_ct, ↓WS_bad, ↓WS_fin, WS_iteBad, WS_ite, W_ok, W_bad, W_lift, W_bnd,
    ↓w_z, w_pS, w_pN, ↓w_varV, ↓w_var, ↓w_cint, ↓w_cbl, ↓w_cnon, ↓w_cstr, ↓w_bin, ↓w_neg, ↓w_cmp, ↓w_chn, ↓w_not, ↓w_and, ↓w_or, ↓w_one, ↓w_ifx, ↓w_tup, ↓w_lst, ↓w_dic0, ↓w_subV, ↓w_subN, ↓w_slcV, ↓w_slcN, ↓w_call, ↓w_bi, ↓w_bi2, ↓w_isi, ↓w_comp, ↓w_anyA, ↓w_pop0, ↓w_pop1, ↓w_index, ↓w_lrng, ↓w_rng1, ↓w_rng2, ↓w_rng3, ↓w_enm, ↓w_zip, ↓w_iV, ↓w_i_sub, ↓w_i_slc, ↓w_i_call, ↓w_i_tup, ↓w_i_comp,
    w_evs0, w_evs, w_evz0, w_evz, w_evc0, w_evc, ↓w_evo0, w_evo0, w_evo, ↓w_tV, ↓w_tcbl, ↓w_tnot, ↓w_tand, ↓w_tor, ↓w_tone, ↓w_t_cmp, ↓w_t_chn, ↓w_t_call, ↓w_t_sub, ↓w_t_isi, ↓w_t_bi, ↓w_t_bin, w_evts0, w_evts,
    s_nil, s_cons, o_none, o_some, ca_none, ca_some, pm_nil, pm_none, pl_nil, pl_cons, gb_none, gb_some, ↓w_has, isL_some, ↓w_hasL, ↓x_asg, ↓x_asgT, ↓x_par, ↓x_aug, setD_L, ↓x_setx, appD_L, ↓x_app, ↓x_expr, ↓x_ret, ↓x_retN, ↓x_ite, ↓x_whl, ↓x_for, ↓x_brk, ↓x_cnt, ↓x_pass, ↓WS_nil, ↓WS_cons, ↓WS_fF, ↓W_cF,
    bt_nm, bt_tp, pu_nil, pu_cons, pk_z, pk_s, pt_z, pt_s, oz_nil, oz_cons, zq_none, zq_some, wp_nil, wp_cons, bk_nil, bk_cons, fe_none, fe_0, fe_1, jn_some, mv_L, mv_D, mv_non, mv_bl, mv_int, mv_str, mv_tup, mv_F, mv_scr, mv_z,
    q_End_end, q_End_look, q_End_block, q_End_draw, q_End_tell, q_End_choose, q_Look_end, q_Look_look, q_Look_block, q_Look_draw, q_Look_tell, q_Look_choose, q_Block_end, q_Block_look, q_Block_block, q_Block_draw, q_Block_tell, q_Block_choose, q_Draw_end, q_Draw_look, q_Draw_block, q_Draw_draw, q_Draw_tell, q_Draw_choose, q_Tell_end, q_Tell_look, q_Tell_block, q_Tell_draw, q_Tell_tell, q_Tell_choose, cut_2, cut_t2, cut_t3,
    slot_var, slot_bad, slot_cint, slot_cbl, slot_cnon, slot_cstr, slot_bin, slot_neg, slot_cmp, slot_chn, slot_not, slot_and, slot_or, slot_ifx, slot_one, slot_tup, slot_lst, slot_sub, slot_slc, slot_call, slot_bi, slot_bi2, slot_isi, slot_comp, slot_lrng, slot_pop0, slot_pop1, slot_index, simple_var, simple_cint, simple_cbl, simple_cnon, simple_cstr, simple_bin, simple_neg, simple_sub, simple_slc, simple_call, simple_bi, simple_bi2, simple_isi, simple_lst, simple_tup, simple_comp, popD, popI, augop, iteq, itemsq, itemsp, List.getElem?_cons_zero, List.getElem?_cons_succ, List.set_cons_zero, List.set_cons_succ, List.replicate_succ, List.replicate_zero, List.map_cons, List.map_nil, List.cons_append, List.nil_append, List.length_cons, List.length_nil,
    Option.bind_some, Option.bind_none, Option.map_some, Option.map_none, Option.join_some, Option.toList_some, Option.toList_none, id_eq,
    frz_non, frz_bl, frz_int, frz_str, frz_tup, frz_lst, frz_dic, frz_scr, isZ_non, isZ_bl, isZ_int, isZ_str, isZ_tup, isZ_lstT, isZ_lstF, isZ_scr, tru_non, tru_bl, tru_int, tru_tup, tru_lst, asInt_int,
    c_eqI, c_neI, c_eqS, c_eqT, c_ltI, c_leI, c_gtI, c_geI, b_addI, b_subI, b_mulI, b_fdivI, b_modI, b_addL, b_addT, b_addS, b_mulL, sl_L, sl_T, bi_lenT, bi_lenL, bi_lenS, bi_absI, bi_intI, bi_listT, bi_listL, bi_listS, bi_tupT, bi_tupL, idx_T, idx_L, atq_0, atq_1, atq_2, atq_3, ixq_0, ixq_1, ixq_2,
    Nat.reduceSub, Nat.reduceAdd, Nat.reduceEqDiff, Int.reduceNeg, Int.reduceAdd, Int.reduceSub, Int.reduceMul, Int.reduceLT, Int.reduceLE, Option.some.injEq, Nat.reduceLeDiff, Nat.zero_add, List.isEmpty_cons, List.isEmpty_nil,
    if_true, if_false, ite_true, ite_false, ↓reduceIte, decide_eq_true_eq, beq_iff_eq, bne_iff_ne, ne_eq, Bool.not_eq_true', Bool.not_eq_eq_eq_not, Bool.and_true, Bool.true_and, Bool.false_and, Bool.not_true, Bool.not_false, Bool.false_eq_true, reduceCtorEq, and_true, true_and, and_self, bltg, isiq,
    f_is_number, f_nexts_of, f_walk, f_lower, f_hopes, f_follows, f_nested, f_law_pool, f_law_draw, f_law_pick, f_law_shuffled, f_law_same, f_law_fraction, f_law_chance, f_law_tree, f_law_nodes, f_law_plan, f_law_names, f_law_bare, f_law_ends, f_law_with_tells, f_law_marks, f_law,
    sig_0, sig_1, sig_2, sig_3, sig_4, sig_5, sig_6, sig_7, sig_8, sig_9, sig_10, sig_11, sig_12, sig_13, sig_14, sig_15, sig_16, sig_17, sig_18, sig_19, sig_20, sig_21, sig_22, $[$es:term],*])
theorem allT {M : List Bool} (h : M.contains false = false) : M = List.replicate M.length true := by
  induction M with
  | nil => rfl
  | cons b M ih =>
    rw [List.contains_cons, Bool.or_eq_false_iff] at h
    cases b with
    | true => rw [List.length_cons, List.replicate_succ, ← ih h.2]
    | false => exact absurd h.1 (by decide)
theorem rowD_nil : D.tup [] = rowD [] := rfl
theorem w_tells (k : Nat) : ∀ (n : Nat) (T : Tr) (p : List D) (tells : List Bool) (Q : D → Env → Prop) (X : XC) (t : T2 Q X), n < 10 → wf n T → Pl p → nE T ≤ tells.length → (∀ (U : TT) p', df (n + 1) U → bare U = T → told U = tells.take (nE T) → Pl p' → Q (.tup [encT U, .lst false ((tells.drop (nE T)).map .bl)]) [some (.lst true p'), none, none]) → W (callN tab (k + n + 2) 20 [.lst true p, enc T, .lst false (tells.map .bl)]) Q X t
  | n, T, p, tells, Q, X, t, hn, hw, hp, hl, hQ => by
    refine C20 ?_
    rw [with_tells_is]
    have e0 : 0 ≤ SZ := by decide
    have e2 : 0 + 1 + 1 ≤ SZ := by decide
    have e3 : 0 + 1 + 1 + 1 ≤ SZ := by decide
    unfold with_tells_0 with_tells_1
    exists e0, enc_isZ, frz_enc
    rw [rowD_nil]
    refine w_ends k n T [] _ _ _ hn hw (by simp; omega) fun o => ?_
    have ht : ∀ n, (tells.map D.bl).take n = (tells.take n).map .bl := fun n => List.map_take.symm
    have hd : ∀ n, (tells.map D.bl).drop n = (tells.drop n).map .bl := fun n => List.map_drop.symm
    exists List.length_map, ends_len, cut_take, cut_drop, enc_isZ, frz_enc, ht, hd
    unfold with_tells_2
    exists notin_bl, enc_isZ, frz_enc
    have hML : (tells.take (nE T)).length = nE T := by rw [List.length_take]; omega
    have hret : (tells.take (nE T)).contains false = false → ∀ p', Pl p' → Q (.tup [.tup [.str sTell, .int 0, enc T], .lst false ((tells.drop (nE T)).map .bl)]) [some (.lst true p'), none, none] := by
      intro hc p' hp'
      have := hQ (.tell (upT T)) p' (df_up n T hw) (by rw [bare, bare_up]) (by have := allT hc; rw [hML] at this; rw [told, bare_up, this]) hp'
      rw [encT, encT_up] at this
      exact this
    have hsT : D.str [116, 101, 108, 108] = .str sTell := rfl
    cases T with
    | fin =>
      have f1 : idx (enc .fin) (.int 0) = some (.str sEnd) := by simp only [enc, idx_T, atq_0]
      by_cases hc : (tells.take (nE .fin)).contains false = false
      · exists hc, f1, e2, e3, hsT, frz_enc, enc_isZ
        exact hret hc p hp
      · rw [Bool.not_eq_false] at hc
        unfold with_tells_3
        exists hc, f1, e2, enc_isZ, frz_enc
        have : tells.take (nE .fin) = [false] := by
          match h : tells.take (nE .fin), hML, hc with
          | [b], _, hc => cases b <;> first | rfl | cases hc
        exact hQ .fin p True.intro rfl (by rw [this]; rfl) hp
    | nd h cs =>
      obtain ⟨m, rfl⟩ : ∃ m, n = m + 1 := by
        cases n with
        | zero => exact hw.elim
        | succ m => exact ⟨m, rfl⟩
      have f1 : ∃ x, idx (enc (.nd h cs)) (.int 0) = some (.str x) ∧ (x = [101, 110, 100]) = False := by
        cases h with
        | look a => exact ⟨sLook, by simp only [enc, Hd.node, idx_T, atq_0], q_Look_end⟩
        | draw a b => exact ⟨sDraw, by simp only [enc, Hd.node, idx_T, atq_0], q_Draw_end⟩
        | block a b => exact ⟨sBlock, by simp only [enc, Hd.node, idx_T, atq_0], q_Block_end⟩
      obtain ⟨x, f1, f2⟩ := f1
      have hrest : ∀ p', Pl p' → WS (exs (sigOf tab) (callN tab (k + m + 2)) [with_tells_3, with_tells_4, with_tells_5, with_tells_6] [some (.lst true p'), some (enc (.nd h cs)), some (.lst false (tells.map .bl)), some (.int (nE (.nd h cs))), some (.lst true ((tells.take (nE (.nd h cs))).map .bl)), some (.lst true ((tells.drop (nE (.nd h cs))).map .bl)), none, none, none, none]) (fun r => Q .non (finE (some 0) 3 r)) (fun d r => Q d (finE (some 0) 3 r)) (fun _ => False) (fun _ => False) (fun c xs r => X c xs (finE (some 0) 3 r)) ⟨⟩ := by
        intro p' hp'
        exact tells_rest (k := k) (n := m) (Q := Q) (fun T p tells Q X t => w_tells k m T p tells Q X t (by omega)) hp' hw (by rw [hML, nE]) (fun U p' h0 h1 h2 h3 => hQ U p' h0 h1 h2 h3)
      by_cases hc : (tells.take (nE (.nd h cs))).contains false = false
      · exists hc, f1, f2
        refine w_draw hp (by omega) (by omega) fun v p1 h1 h2 hp1 => ?_
        by_cases hv : v = 0
        · exists hv, e2, e3, hsT, frz_enc, enc_isZ
          exact hret hc p1 hp1
        · have := hrest p1 hp1
          rw [WS_cons] at this
          exists hv
          exact this
      · rw [Bool.not_eq_false] at hc
        have := hrest p hp
        rw [WS_cons] at this
        exists hc
        exact this
end K84
end
section
set_option maxRecDepth 100000
set_option linter.all false
namespace K84
open Sf
local macro_rules
  | `(tactic| trivial) => `(tactic| simp only [WO_some, WO_none, ↓WO_map, ↓WO_bind, WO_iteN, ↓W_ok, ↓W_bad, ↓W_lift, ↓W_bnd, W_iteBad, W_ite, ↓WS_nx, ↓WS_rt, ↓WS_bk, ↓WS_ct, ↓WS_bad, ↓WS_fin, WS_iteBad, WS_ite, W_ok, W_bad, W_lift, W_bnd,
    ↓w_z, w_pS, w_pN, ↓w_varV, ↓w_var, ↓w_cint, ↓w_cbl, ↓w_cnon, ↓w_cstr, ↓w_bin, ↓w_neg, ↓w_cmp, ↓w_chn, ↓w_not, ↓w_and, ↓w_or, ↓w_one, ↓w_ifx, ↓w_tup, ↓w_lst, ↓w_dic0, ↓w_subV, ↓w_subN, ↓w_slcV, ↓w_slcN, ↓w_call, ↓w_bi, ↓w_bi2, ↓w_isi, ↓w_comp, ↓w_anyA, ↓w_pop0, ↓w_pop1, ↓w_index, ↓w_lrng, ↓w_rng1, ↓w_rng2, ↓w_rng3, ↓w_enm, ↓w_zip, ↓w_iV, ↓w_i_sub, ↓w_i_slc, ↓w_i_call, ↓w_i_tup, ↓w_i_comp,
    w_evs0, w_evs, w_evz0, w_evz, w_evc0, w_evc, ↓w_evo0, w_evo0, w_evo, ↓w_tV, ↓w_tcbl, ↓w_tnot, ↓w_tand, ↓w_tor, ↓w_tone, ↓w_t_cmp, ↓w_t_chn, ↓w_t_call, ↓w_t_sub, ↓w_t_isi, ↓w_t_bi, ↓w_t_bin, w_evts0, w_evts,
    s_nil, s_cons, o_none, o_some, ca_none, ca_some, pm_nil, pm_none, pl_nil, pl_cons, gb_none, gb_some, ↓w_has, isL_some, ↓w_hasL, ↓x_asg, ↓x_asgT, ↓x_par, ↓x_aug, setD_L, ↓x_setx, appD_L, ↓x_app, ↓x_expr, ↓x_ret, ↓x_retN, ↓x_ite, ↓x_whl, ↓x_for, ↓x_brk, ↓x_cnt, ↓x_pass, ↓WS_nil, ↓WS_cons, ↓WS_fF, ↓W_cF,
    bt_nm, bt_tp, pu_nil, pu_cons, pk_z, pk_s, pt_z, pt_s, oz_nil, oz_cons, zq_none, zq_some, wp_nil, wp_cons, bk_nil, bk_cons, fe_none, fe_0, fe_1, jn_some, mv_L, mv_D, mv_non, mv_bl, mv_int, mv_str, mv_tup, mv_F, mv_scr, mv_z,
    q_End_end, q_End_look, q_End_block, q_End_draw, q_End_tell, q_End_choose, q_Look_end, q_Look_look, q_Look_block, q_Look_draw, q_Look_tell, q_Look_choose, q_Block_end, q_Block_look, q_Block_block, q_Block_draw, q_Block_tell, q_Block_choose, q_Draw_end, q_Draw_look, q_Draw_block, q_Draw_draw, q_Draw_tell, q_Draw_choose, q_Tell_end, q_Tell_look, q_Tell_block, q_Tell_draw, q_Tell_tell, q_Tell_choose, cut_2, cut_t2, cut_t3,
    slot_var, slot_bad, slot_cint, slot_cbl, slot_cnon, slot_cstr, slot_bin, slot_neg, slot_cmp, slot_chn, slot_not, slot_and, slot_or, slot_ifx, slot_one, slot_tup, slot_lst, slot_sub, slot_slc, slot_call, slot_bi, slot_bi2, slot_isi, slot_comp, slot_lrng, slot_pop0, slot_pop1, slot_index, simple_var, simple_cint, simple_cbl, simple_cnon, simple_cstr, simple_bin, simple_neg, simple_sub, simple_slc, simple_call, simple_bi, simple_bi2, simple_isi, simple_lst, simple_tup, simple_comp, popD, popI, augop, iteq, itemsq, itemsp, List.getElem?_cons_zero, List.getElem?_cons_succ, List.set_cons_zero, List.set_cons_succ, List.replicate_succ, List.replicate_zero, List.map_cons, List.map_nil, List.cons_append, List.nil_append, List.length_cons, List.length_nil,
    Option.bind_some, Option.bind_none, Option.map_some, Option.map_none, Option.join_some, Option.toList_some, Option.toList_none, id_eq,
    frz_non, frz_bl, frz_int, frz_str, frz_tup, frz_lst, frz_dic, frz_scr, isZ_non, isZ_bl, isZ_int, isZ_str, isZ_tup, isZ_lstT, isZ_lstF, isZ_scr, tru_non, tru_bl, tru_int, tru_tup, tru_lst, asInt_int,
    c_eqI, c_neI, c_eqS, c_eqT, c_ltI, c_leI, c_gtI, c_geI, b_addI, b_subI, b_mulI, b_fdivI, b_modI, b_addL, b_addT, b_addS, b_mulL, sl_L, sl_T, bi_lenT, bi_lenL, bi_lenS, bi_absI, bi_intI, bi_listT, bi_listL, bi_listS, bi_tupT, bi_tupL, idx_T, idx_L, atq_0, atq_1, atq_2, atq_3, ixq_0, ixq_1, ixq_2,
    Nat.reduceSub, Nat.reduceAdd, Nat.reduceEqDiff, Int.reduceNeg, Int.reduceAdd, Int.reduceSub, Int.reduceMul, Int.reduceLT, Int.reduceLE, Option.some.injEq, Nat.reduceLeDiff, Nat.zero_add, List.isEmpty_cons, List.isEmpty_nil,
    if_true, if_false, ite_true, ite_false, ↓reduceIte, decide_eq_true_eq, beq_iff_eq, bne_iff_ne, ne_eq, Bool.not_eq_true', Bool.not_eq_eq_eq_not, Bool.and_true, Bool.true_and, Bool.false_and, Bool.not_true, Bool.not_false, Bool.false_eq_true, reduceCtorEq, and_true, true_and, and_self, bltg, isiq,
    f_is_number, f_nexts_of, f_walk, f_lower, f_hopes, f_follows, f_nested, f_law_pool, f_law_draw, f_law_pick, f_law_shuffled, f_law_same, f_law_fraction, f_law_chance, f_law_tree, f_law_nodes, f_law_plan, f_law_names, f_law_bare, f_law_ends, f_law_with_tells, f_law_marks, f_law,
    sig_0, sig_1, sig_2, sig_3, sig_4, sig_5, sig_6, sig_7, sig_8, sig_9, sig_10, sig_11, sig_12, sig_13, sig_14, sig_15, sig_16, sig_17, sig_18, sig_19, sig_20, sig_21, sig_22])
  | `(tactic| exists $es:term,*) => `(tactic| simp only [WO_some, WO_none, ↓WO_map, ↓WO_bind, WO_iteN, ↓W_ok, ↓W_bad, ↓W_lift, ↓W_bnd, W_iteBad, W_ite, ↓WS_nx, ↓WS_rt, ↓WS_bk, ↓WS_ct, ↓WS_bad, ↓WS_fin, WS_iteBad, WS_ite, W_ok, W_bad, W_lift, W_bnd,
    ↓w_z, w_pS, w_pN, ↓w_varV, ↓w_var, ↓w_cint, ↓w_cbl, ↓w_cnon, ↓w_cstr, ↓w_bin, ↓w_neg, ↓w_cmp, ↓w_chn, ↓w_not, ↓w_and, ↓w_or, ↓w_one, ↓w_ifx, ↓w_tup, ↓w_lst, ↓w_dic0, ↓w_subV, ↓w_subN, ↓w_slcV, ↓w_slcN, ↓w_call, ↓w_bi, ↓w_bi2, ↓w_isi, ↓w_comp, ↓w_anyA, ↓w_pop0, ↓w_pop1, ↓w_index, ↓w_lrng, ↓w_rng1, ↓w_rng2, ↓w_rng3, ↓w_enm, ↓w_zip, ↓w_iV, ↓w_i_sub, ↓w_i_slc, ↓w_i_call, ↓w_i_tup, ↓w_i_comp,
    w_evs0, w_evs, w_evz0, w_evz, w_evc0, w_evc, ↓w_evo0, w_evo0, w_evo, ↓w_tV, ↓w_tcbl, ↓w_tnot, ↓w_tand, ↓w_tor, ↓w_tone, ↓w_t_cmp, ↓w_t_chn, ↓w_t_call, ↓w_t_sub, ↓w_t_isi, ↓w_t_bi, ↓w_t_bin, w_evts0, w_evts,
    s_nil, s_cons, o_none, o_some, ca_none, ca_some, pm_nil, pm_none, pl_nil, pl_cons, gb_none, gb_some, ↓w_has, isL_some, ↓w_hasL, ↓x_asg, ↓x_asgT, ↓x_par, ↓x_aug, setD_L, ↓x_setx, appD_L, ↓x_app, ↓x_expr, ↓x_ret, ↓x_retN, ↓x_ite, ↓x_whl, ↓x_for, ↓x_brk, ↓x_cnt, ↓x_pass, ↓WS_nil, ↓WS_cons, ↓WS_fF, ↓W_cF,
    bt_nm, bt_tp, pu_nil, pu_cons, pk_z, pk_s, pt_z, pt_s, oz_nil, oz_cons, zq_none, zq_some, wp_nil, wp_cons, bk_nil, bk_cons, fe_none, fe_0, fe_1, jn_some, mv_L, mv_D, mv_non, mv_bl, mv_int, mv_str, mv_tup, mv_F, mv_scr, mv_z,
    q_End_end, q_End_look, q_End_block, q_End_draw, q_End_tell, q_End_choose, q_Look_end, q_Look_look, q_Look_block, q_Look_draw, q_Look_tell, q_Look_choose, q_Block_end, q_Block_look, q_Block_block, q_Block_draw, q_Block_tell, q_Block_choose, q_Draw_end, q_Draw_look, q_Draw_block, q_Draw_draw, q_Draw_tell, q_Draw_choose, q_Tell_end, q_Tell_look, q_Tell_block, q_Tell_draw, q_Tell_tell, q_Tell_choose, cut_2, cut_t2, cut_t3,
    slot_var, slot_bad, slot_cint, slot_cbl, slot_cnon, slot_cstr, slot_bin, slot_neg, slot_cmp, slot_chn, slot_not, slot_and, slot_or, slot_ifx, slot_one, slot_tup, slot_lst, slot_sub, slot_slc, slot_call, slot_bi, slot_bi2, slot_isi, slot_comp, slot_lrng, slot_pop0, slot_pop1, slot_index, simple_var, simple_cint, simple_cbl, simple_cnon, simple_cstr, simple_bin, simple_neg, simple_sub, simple_slc, simple_call, simple_bi, simple_bi2, simple_isi, simple_lst, simple_tup, simple_comp, popD, popI, augop, iteq, itemsq, itemsp, List.getElem?_cons_zero, List.getElem?_cons_succ, List.set_cons_zero, List.set_cons_succ, List.replicate_succ, List.replicate_zero, List.map_cons, List.map_nil, List.cons_append, List.nil_append, List.length_cons, List.length_nil,
    Option.bind_some, Option.bind_none, Option.map_some, Option.map_none, Option.join_some, Option.toList_some, Option.toList_none, id_eq,
    frz_non, frz_bl, frz_int, frz_str, frz_tup, frz_lst, frz_dic, frz_scr, isZ_non, isZ_bl, isZ_int, isZ_str, isZ_tup, isZ_lstT, isZ_lstF, isZ_scr, tru_non, tru_bl, tru_int, tru_tup, tru_lst, asInt_int,
    c_eqI, c_neI, c_eqS, c_eqT, c_ltI, c_leI, c_gtI, c_geI, b_addI, b_subI, b_mulI, b_fdivI, b_modI, b_addL, b_addT, b_addS, b_mulL, sl_L, sl_T, bi_lenT, bi_lenL, bi_lenS, bi_absI, bi_intI, bi_listT, bi_listL, bi_listS, bi_tupT, bi_tupL, idx_T, idx_L, atq_0, atq_1, atq_2, atq_3, ixq_0, ixq_1, ixq_2,
    Nat.reduceSub, Nat.reduceAdd, Nat.reduceEqDiff, Int.reduceNeg, Int.reduceAdd, Int.reduceSub, Int.reduceMul, Int.reduceLT, Int.reduceLE, Option.some.injEq, Nat.reduceLeDiff, Nat.zero_add, List.isEmpty_cons, List.isEmpty_nil,
    if_true, if_false, ite_true, ite_false, ↓reduceIte, decide_eq_true_eq, beq_iff_eq, bne_iff_ne, ne_eq, Bool.not_eq_true', Bool.not_eq_eq_eq_not, Bool.and_true, Bool.true_and, Bool.false_and, Bool.not_true, Bool.not_false, Bool.false_eq_true, reduceCtorEq, and_true, true_and, and_self, bltg, isiq,
    f_is_number, f_nexts_of, f_walk, f_lower, f_hopes, f_follows, f_nested, f_law_pool, f_law_draw, f_law_pick, f_law_shuffled, f_law_same, f_law_fraction, f_law_chance, f_law_tree, f_law_nodes, f_law_plan, f_law_names, f_law_bare, f_law_ends, f_law_with_tells, f_law_marks, f_law,
    sig_0, sig_1, sig_2, sig_3, sig_4, sig_5, sig_6, sig_7, sig_8, sig_9, sig_10, sig_11, sig_12, sig_13, sig_14, sig_15, sig_16, sig_17, sig_18, sig_19, sig_20, sig_21, sig_22, $[$es:term],*])
mutual
def sz : TT → Nat
  | .fin => 1
  | .tell c => 1 + sz c
  | .nd _ cs => 1 + szs cs
def szs : List TT → Nat
  | [] => 0
  | c :: cs => sz c + szs cs
end
def nums : List TT → Nat → List D
  | [], _ => []
  | c :: cs, a => .int a :: nums cs (a + sz c)
mutual
/-- the nodes of a tree from the number a on -/
def lay : TT → Nat → List D
  | .fin, _ => [.tup [.str sEnd]]
  | .tell c, a => .tup [.str sTell, .int 0, .int ((a + 1 : Nat) : Int)] :: lay c (a + 1)
  | .nd h cs, a => h.node (nums cs (a + 1)) :: lays cs (a + 1)
def lays : List TT → Nat → List D
  | [], _ => []
  | c :: cs, a => lay c a ++ lays cs (a + sz c)
end
mutual
theorem lay_len : ∀ (U : TT) (a : Nat), (lay U a).length = sz U
  | .fin, _ => rfl
  | .tell c, a => by rw [lay, List.length_cons, lay_len c, sz]; omega
  | .nd h cs, a => by rw [lay, List.length_cons, lays_len cs, sz]; omega
theorem lays_len : ∀ (cs : List TT) (a : Nat), (lays cs a).length = szs cs
  | [], _ => rfl
  | c :: cs, a => by rw [lays, List.length_append, lay_len c, lays_len cs, szs]
end
theorem szs_app : ∀ cs ds : List TT, szs (cs ++ ds) = szs cs + szs ds
  | [], ds => by simp [szs]
  | c :: cs, ds => by simp only [List.cons_append, szs, szs_app cs ds]; omega
theorem nums_app : ∀ (cs ds : List TT) (a : Nat), nums (cs ++ ds) a = nums cs a ++ nums ds (a + szs cs)
  | [], ds, a => by simp [szs, nums]
  | c :: cs, ds, a => by simp only [List.cons_append, szs, nums, nums_app cs ds, Nat.add_assoc]
theorem lays_app : ∀ (cs ds : List TT) (a : Nat), lays (cs ++ ds) a = lays cs a ++ lays ds (a + szs cs)
  | [], ds, a => by simp [szs, lays]
  | c :: cs, ds, a => by simp only [List.cons_append, szs, lays, lays_app cs ds, Nat.add_assoc, List.append_assoc]
theorem df_at : ∀ {n : Nat} {cs : List TT} {c : TT} {ds : List TT}, dfs n (cs ++ c :: ds) → df n c
  | _, [], _, _, h => h.1
  | _, _ :: cs, _, _, h => df_at (cs := cs) h.2
theorem set_mid (xs ys : List D) (a b : D) : (xs ++ a :: ys).set xs.length b = xs ++ b :: ys := by
  induction xs with
  | nil => rfl
  | cons x xs ih => simp only [List.cons_append, List.length_cons, List.set_cons_succ, ih]
def NodesAt (k n : Nat) : Prop := ∀ (U : TT) (nds : List D) (Q : D → Env → Prop) (X : XC) (t : T2 Q X), df n U → nds.length + sz U < 1000000 → Q (.int (nds.length : Nat)) [none, some (.lst true (nds ++ lay U nds.length))] → W (callN tab k 15 [encT U, .lst true nds]) Q X t
theorem nodes_comp {k n : Nat} (ih : NodesAt k n) {cs : List TT} {nds : List D} {tree at' : D} {Q : List D → Env → Prop} {X : XC} {t} (hd : dfs n cs) (hl : nds.length + 1 + szs cs < 1000000)
    (h : ∀ q, Q (nums cs (nds.length + 1)) [some tree, some (.lst true (nds ++ .non :: lays cs (nds.length + 1))), some at', q]) :
    W (compL [3] (cF (sigOf tab) (callN tab k) (.call 15 [.var 3, .var 1] []) (.nm 3) []) (encTs cs) [some tree, some (.lst true (nds ++ [.non])), some at', none]) Q X t := by
  refine compW (fun xs r acc => ∃ (done rest : List TT) (q : Option D), cs = done ++ rest ∧ xs = encTs rest ∧ acc = nums done (nds.length + 1) ∧ r = [some tree, some (.lst true (nds ++ .non :: lays done (nds.length + 1))), some at', q]) ⟨[], cs, none, rfl, rfl, rfl, rfl⟩ ?_ ?_
  · rintro x xs r acc ⟨done, rest, q, h1, h2, rfl, rfl⟩
    cases rest with
    | nil => cases h2
    | cons c rest =>
      rw [encTs] at h2
      obtain ⟨rfl, rfl⟩ := List.cons.inj h2
      exists encT_isZ, frz_encT
      have hlen : (nds ++ D.non :: lays done (nds.length + 1)).length = nds.length + 1 + szs done := by
        rw [List.length_append, List.length_cons, lays_len]; omega
      have hs : szs cs = szs done + (sz c + szs rest) := by rw [h1, szs_app, szs]
      refine ih c _ _ _ _ (df_at (cs := done) (ds := rest) (by rw [← h1]; exact hd)) (by rw [hlen]; omega) ?_
      rw [hlen]
      trivial
      refine ⟨done ++ [c], rest, some (encT c), by rw [h1]; simp, rfl, by rw [nums_app]; rfl, ?_⟩
      rw [lays_app, lays, lays, List.append_nil, List.append_assoc]
      rfl
  · rintro r acc ⟨done, rest, q, h1, h2, rfl, rfl⟩
    cases rest with
    | cons c rest => cases h2
    | nil => rw [List.append_nil] at h1; subst h1; exact h q
end K84
end
section
set_option maxRecDepth 100000
set_option linter.all false
namespace K84
open Sf
local macro_rules
  | `(tactic| trivial) => `(tactic| simp only [WO_some, WO_none, ↓WO_map, ↓WO_bind, WO_iteN, ↓W_ok, ↓W_bad, ↓W_lift, ↓W_bnd, W_iteBad, W_ite, ↓WS_nx, ↓WS_rt, ↓WS_bk, ↓WS_ct, ↓WS_bad, ↓WS_fin, WS_iteBad, WS_ite, W_ok, W_bad, W_lift, W_bnd,
    ↓w_z, w_pS, w_pN, ↓w_varV, ↓w_var, ↓w_cint, ↓w_cbl, ↓w_cnon, ↓w_cstr, ↓w_bin, ↓w_neg, ↓w_cmp, ↓w_chn, ↓w_not, ↓w_and, ↓w_or, ↓w_one, ↓w_ifx, ↓w_tup, ↓w_lst, ↓w_dic0, ↓w_subV, ↓w_subN, ↓w_slcV, ↓w_slcN, ↓w_call, ↓w_bi, ↓w_bi2, ↓w_isi, ↓w_comp, ↓w_anyA, ↓w_pop0, ↓w_pop1, ↓w_index, ↓w_lrng, ↓w_rng1, ↓w_rng2, ↓w_rng3, ↓w_enm, ↓w_zip, ↓w_iV, ↓w_i_sub, ↓w_i_slc, ↓w_i_call, ↓w_i_tup, ↓w_i_comp,
    w_evs0, w_evs, w_evz0, w_evz, w_evc0, w_evc, ↓w_evo0, w_evo0, w_evo, ↓w_tV, ↓w_tcbl, ↓w_tnot, ↓w_tand, ↓w_tor, ↓w_tone, ↓w_t_cmp, ↓w_t_chn, ↓w_t_call, ↓w_t_sub, ↓w_t_isi, ↓w_t_bi, ↓w_t_bin, w_evts0, w_evts,
    s_nil, s_cons, o_none, o_some, ca_none, ca_some, pm_nil, pm_none, pl_nil, pl_cons, gb_none, gb_some, ↓w_has, isL_some, ↓w_hasL, ↓x_asg, ↓x_asgT, ↓x_par, ↓x_aug, setD_L, ↓x_setx, appD_L, ↓x_app, ↓x_expr, ↓x_ret, ↓x_retN, ↓x_ite, ↓x_whl, ↓x_for, ↓x_brk, ↓x_cnt, ↓x_pass, ↓WS_nil, ↓WS_cons, ↓WS_fF, ↓W_cF,
    bt_nm, bt_tp, pu_nil, pu_cons, pk_z, pk_s, pt_z, pt_s, oz_nil, oz_cons, zq_none, zq_some, wp_nil, wp_cons, bk_nil, bk_cons, fe_none, fe_0, fe_1, jn_some, mv_L, mv_D, mv_non, mv_bl, mv_int, mv_str, mv_tup, mv_F, mv_scr, mv_z,
    q_End_end, q_End_look, q_End_block, q_End_draw, q_End_tell, q_End_choose, q_Look_end, q_Look_look, q_Look_block, q_Look_draw, q_Look_tell, q_Look_choose, q_Block_end, q_Block_look, q_Block_block, q_Block_draw, q_Block_tell, q_Block_choose, q_Draw_end, q_Draw_look, q_Draw_block, q_Draw_draw, q_Draw_tell, q_Draw_choose, q_Tell_end, q_Tell_look, q_Tell_block, q_Tell_draw, q_Tell_tell, q_Tell_choose, cut_2, cut_t2, cut_t3,
    slot_var, slot_bad, slot_cint, slot_cbl, slot_cnon, slot_cstr, slot_bin, slot_neg, slot_cmp, slot_chn, slot_not, slot_and, slot_or, slot_ifx, slot_one, slot_tup, slot_lst, slot_sub, slot_slc, slot_call, slot_bi, slot_bi2, slot_isi, slot_comp, slot_lrng, slot_pop0, slot_pop1, slot_index, simple_var, simple_cint, simple_cbl, simple_cnon, simple_cstr, simple_bin, simple_neg, simple_sub, simple_slc, simple_call, simple_bi, simple_bi2, simple_isi, simple_lst, simple_tup, simple_comp, popD, popI, augop, iteq, itemsq, itemsp, List.getElem?_cons_zero, List.getElem?_cons_succ, List.set_cons_zero, List.set_cons_succ, List.replicate_succ, List.replicate_zero, List.map_cons, List.map_nil, List.cons_append, List.nil_append, List.length_cons, List.length_nil,
    Option.bind_some, Option.bind_none, Option.map_some, Option.map_none, Option.join_some, Option.toList_some, Option.toList_none, id_eq,
    frz_non, frz_bl, frz_int, frz_str, frz_tup, frz_lst, frz_dic, frz_scr, isZ_non, isZ_bl, isZ_int, isZ_str, isZ_tup, isZ_lstT, isZ_lstF, isZ_scr, tru_non, tru_bl, tru_int, tru_tup, tru_lst, asInt_int,
    c_eqI, c_neI, c_eqS, c_eqT, c_ltI, c_leI, c_gtI, c_geI, b_addI, b_subI, b_mulI, b_fdivI, b_modI, b_addL, b_addT, b_addS, b_mulL, sl_L, sl_T, bi_lenT, bi_lenL, bi_lenS, bi_absI, bi_intI, bi_listT, bi_listL, bi_listS, bi_tupT, bi_tupL, idx_T, idx_L, atq_0, atq_1, atq_2, atq_3, ixq_0, ixq_1, ixq_2,
    Nat.reduceSub, Nat.reduceAdd, Nat.reduceEqDiff, Int.reduceNeg, Int.reduceAdd, Int.reduceSub, Int.reduceMul, Int.reduceLT, Int.reduceLE, Option.some.injEq, Nat.reduceLeDiff, Nat.zero_add, List.isEmpty_cons, List.isEmpty_nil,
    if_true, if_false, ite_true, ite_false, ↓reduceIte, decide_eq_true_eq, beq_iff_eq, bne_iff_ne, ne_eq, Bool.not_eq_true', Bool.not_eq_eq_eq_not, Bool.and_true, Bool.true_and, Bool.false_and, Bool.not_true, Bool.not_false, Bool.false_eq_true, reduceCtorEq, and_true, true_and, and_self, bltg, isiq,
    f_is_number, f_nexts_of, f_walk, f_lower, f_hopes, f_follows, f_nested, f_law_pool, f_law_draw, f_law_pick, f_law_shuffled, f_law_same, f_law_fraction, f_law_chance, f_law_tree, f_law_nodes, f_law_plan, f_law_names, f_law_bare, f_law_ends, f_law_with_tells, f_law_marks, f_law,
    sig_0, sig_1, sig_2, sig_3, sig_4, sig_5, sig_6, sig_7, sig_8, sig_9, sig_10, sig_11, sig_12, sig_13, sig_14, sig_15, sig_16, sig_17, sig_18, sig_19, sig_20, sig_21, sig_22])
  | `(tactic| exists $es:term,*) => `(tactic| simp only [WO_some, WO_none, ↓WO_map, ↓WO_bind, WO_iteN, ↓W_ok, ↓W_bad, ↓W_lift, ↓W_bnd, W_iteBad, W_ite, ↓WS_nx, ↓WS_rt, ↓WS_bk, ↓WS_ct, ↓WS_bad, ↓WS_fin, WS_iteBad, WS_ite, W_ok, W_bad, W_lift, W_bnd,
    ↓w_z, w_pS, w_pN, ↓w_varV, ↓w_var, ↓w_cint, ↓w_cbl, ↓w_cnon, ↓w_cstr, ↓w_bin, ↓w_neg, ↓w_cmp, ↓w_chn, ↓w_not, ↓w_and, ↓w_or, ↓w_one, ↓w_ifx, ↓w_tup, ↓w_lst, ↓w_dic0, ↓w_subV, ↓w_subN, ↓w_slcV, ↓w_slcN, ↓w_call, ↓w_bi, ↓w_bi2, ↓w_isi, ↓w_comp, ↓w_anyA, ↓w_pop0, ↓w_pop1, ↓w_index, ↓w_lrng, ↓w_rng1, ↓w_rng2, ↓w_rng3, ↓w_enm, ↓w_zip, ↓w_iV, ↓w_i_sub, ↓w_i_slc, ↓w_i_call, ↓w_i_tup, ↓w_i_comp,
    w_evs0, w_evs, w_evz0, w_evz, w_evc0, w_evc, ↓w_evo0, w_evo0, w_evo, ↓w_tV, ↓w_tcbl, ↓w_tnot, ↓w_tand, ↓w_tor, ↓w_tone, ↓w_t_cmp, ↓w_t_chn, ↓w_t_call, ↓w_t_sub, ↓w_t_isi, ↓w_t_bi, ↓w_t_bin, w_evts0, w_evts,
    s_nil, s_cons, o_none, o_some, ca_none, ca_some, pm_nil, pm_none, pl_nil, pl_cons, gb_none, gb_some, ↓w_has, isL_some, ↓w_hasL, ↓x_asg, ↓x_asgT, ↓x_par, ↓x_aug, setD_L, ↓x_setx, appD_L, ↓x_app, ↓x_expr, ↓x_ret, ↓x_retN, ↓x_ite, ↓x_whl, ↓x_for, ↓x_brk, ↓x_cnt, ↓x_pass, ↓WS_nil, ↓WS_cons, ↓WS_fF, ↓W_cF,
    bt_nm, bt_tp, pu_nil, pu_cons, pk_z, pk_s, pt_z, pt_s, oz_nil, oz_cons, zq_none, zq_some, wp_nil, wp_cons, bk_nil, bk_cons, fe_none, fe_0, fe_1, jn_some, mv_L, mv_D, mv_non, mv_bl, mv_int, mv_str, mv_tup, mv_F, mv_scr, mv_z,
    q_End_end, q_End_look, q_End_block, q_End_draw, q_End_tell, q_End_choose, q_Look_end, q_Look_look, q_Look_block, q_Look_draw, q_Look_tell, q_Look_choose, q_Block_end, q_Block_look, q_Block_block, q_Block_draw, q_Block_tell, q_Block_choose, q_Draw_end, q_Draw_look, q_Draw_block, q_Draw_draw, q_Draw_tell, q_Draw_choose, q_Tell_end, q_Tell_look, q_Tell_block, q_Tell_draw, q_Tell_tell, q_Tell_choose, cut_2, cut_t2, cut_t3,
    slot_var, slot_bad, slot_cint, slot_cbl, slot_cnon, slot_cstr, slot_bin, slot_neg, slot_cmp, slot_chn, slot_not, slot_and, slot_or, slot_ifx, slot_one, slot_tup, slot_lst, slot_sub, slot_slc, slot_call, slot_bi, slot_bi2, slot_isi, slot_comp, slot_lrng, slot_pop0, slot_pop1, slot_index, simple_var, simple_cint, simple_cbl, simple_cnon, simple_cstr, simple_bin, simple_neg, simple_sub, simple_slc, simple_call, simple_bi, simple_bi2, simple_isi, simple_lst, simple_tup, simple_comp, popD, popI, augop, iteq, itemsq, itemsp, List.getElem?_cons_zero, List.getElem?_cons_succ, List.set_cons_zero, List.set_cons_succ, List.replicate_succ, List.replicate_zero, List.map_cons, List.map_nil, List.cons_append, List.nil_append, List.length_cons, List.length_nil,
    Option.bind_some, Option.bind_none, Option.map_some, Option.map_none, Option.join_some, Option.toList_some, Option.toList_none, id_eq,
    frz_non, frz_bl, frz_int, frz_str, frz_tup, frz_lst, frz_dic, frz_scr, isZ_non, isZ_bl, isZ_int, isZ_str, isZ_tup, isZ_lstT, isZ_lstF, isZ_scr, tru_non, tru_bl, tru_int, tru_tup, tru_lst, asInt_int,
    c_eqI, c_neI, c_eqS, c_eqT, c_ltI, c_leI, c_gtI, c_geI, b_addI, b_subI, b_mulI, b_fdivI, b_modI, b_addL, b_addT, b_addS, b_mulL, sl_L, sl_T, bi_lenT, bi_lenL, bi_lenS, bi_absI, bi_intI, bi_listT, bi_listL, bi_listS, bi_tupT, bi_tupL, idx_T, idx_L, atq_0, atq_1, atq_2, atq_3, ixq_0, ixq_1, ixq_2,
    Nat.reduceSub, Nat.reduceAdd, Nat.reduceEqDiff, Int.reduceNeg, Int.reduceAdd, Int.reduceSub, Int.reduceMul, Int.reduceLT, Int.reduceLE, Option.some.injEq, Nat.reduceLeDiff, Nat.zero_add, List.isEmpty_cons, List.isEmpty_nil,
    if_true, if_false, ite_true, ite_false, ↓reduceIte, decide_eq_true_eq, beq_iff_eq, bne_iff_ne, ne_eq, Bool.not_eq_true', Bool.not_eq_eq_eq_not, Bool.and_true, Bool.true_and, Bool.false_and, Bool.not_true, Bool.not_false, Bool.false_eq_true, reduceCtorEq, and_true, true_and, and_self, bltg, isiq,
    f_is_number, f_nexts_of, f_walk, f_lower, f_hopes, f_follows, f_nested, f_law_pool, f_law_draw, f_law_pick, f_law_shuffled, f_law_same, f_law_fraction, f_law_chance, f_law_tree, f_law_nodes, f_law_plan, f_law_names, f_law_bare, f_law_ends, f_law_with_tells, f_law_marks, f_law,
    sig_0, sig_1, sig_2, sig_3, sig_4, sig_5, sig_6, sig_7, sig_8, sig_9, sig_10, sig_11, sig_12, sig_13, sig_14, sig_15, sig_16, sig_17, sig_18, sig_19, sig_20, sig_21, sig_22, $[$es:term],*])
theorem nums_len : ∀ (cs : List TT) (a : Nat), (nums cs a).length = cs.length
  | [], _ => rfl
  | c :: cs, a => by rw [nums, List.length_cons, nums_len cs, List.length_cons]
theorem dlt4 {n : Nat} {h : Hd} {cs : List TT} (hw : df (n + 1) (.nd h cs)) : cs.length ≤ 4 := by
  have := hw.1
  cases h <;> simp only [Hd.ok] at this <;> omega
theorem w_nodes (k : Nat) : ∀ n : Nat, NodesAt (k + n + 1) n
  | n, U, nds, Q, X, t, hd, hl, hQ => by
    refine C15 ?_
    rw [nodes_is]
    unfold nodes_0 nodes_1 nodes_2 nodes_3
    have eS : 1000000 < SZ := by decide
    have e0 : nds.length < SZ := by omega
    have e1 : ixq (nds ++ [D.non]).length (nds.length : Int) = some nds.length := ixq_nat (by rw [List.length_append]; simp)
    have e1' : ixq (nds.length + 1) (nds.length : Int) = some nds.length := ixq_nat (by omega)
    have e2 : 1 + 1 + 1 ≤ SZ := by decide
    have e3 : 1 ≤ SZ := by decide
    have es : ∀ d, (nds ++ [D.non]).set nds.length d = nds ++ [d] := fun d => set_mid nds [] _ d
    have hm : ∀ (ys : List D) (r : Env), ixq (nds ++ D.non :: ys).length (nds.length : Int) = some nds.length := fun ys r => ixq_nat (by rw [List.length_append, List.length_cons]; omega)
    cases U with
    | fin =>
      have f1 : idx (encT .fin) (.int 0) = some (.str sEnd) := by simp only [encT, idx_T, atq_0]
      have f2 : encT .fin = .tup [.str sEnd] := rfl
      exists e0, encT_isZ, frz_encT, f1, e1, es, frz_non, setD
      rw [f2]
      exact hQ
    | tell c =>
      obtain ⟨m, rfl⟩ : ∃ m, n = m + 1 := by
        cases n with
        | zero => exact hd.elim
        | succ m => exact ⟨m, rfl⟩
      have f1 : idx (encT (.tell c)) (.int 0) = some (.str sTell) := by simp only [encT, idx_T, atq_0]
      have f2 : idx (encT (.tell c)) (.int 2) = some (encT c) := by simp only [encT, idx_T, atq_2]
      have f3 : slq (encT (.tell c)) none (some 2) = some (.tup [.str sTell, .int 0]) := by simp only [encT, sl_T, cut_t2]
      exists e0, encT_isZ, frz_encT, f1, f2, f3
      have hl2 : (nds ++ [D.non]).length = nds.length + 1 := by rw [List.length_append]; rfl
      rw [sz] at hl
      refine w_nodes k m c _ _ _ _ hd (by rw [hl2]; omega) ?_
      have e4 : 1 + 1 ≤ SZ := by decide
      have e6 : (nds ++ [D.non] ++ lay c (nds.length + 1)).set nds.length (.tup [.str sTell, .int 0, .int ((nds.length + 1 : Nat) : Int)]) = nds ++ lay (.tell c) nds.length := by
        rw [List.append_assoc]; exact set_mid nds _ _ _
      have e7 : ixq (nds ++ [D.non] ++ lay c (nds.length + 1)).length (nds.length : Int) = some nds.length := by
        rw [List.append_assoc]; exact hm _ []
      rw [hl2]
      exists e3, e2, e6, e7
      exact hQ
    | nd h cs =>
      obtain ⟨m, rfl⟩ : ∃ m, n = m + 1 := by
        cases n with
        | zero => exact hd.elim
        | succ m => exact ⟨m, rfl⟩
      have h4 := dlt4 hd
      have eh : 100 ≤ SZ := by decide
      have e4 : 1 + 1 + (nums cs (nds.length + 1)).length ≤ SZ := by rw [nums_len]; omega
      have e5 : 1 + 1 + 1 + 1 ≤ SZ := by omega
      have e6 : ∀ d, (nds ++ D.non :: lays cs (nds.length + 1)).set nds.length d = nds ++ d :: lays cs (nds.length + 1) := fun d => set_mid nds _ _ _
      have e7 : ixq (nds ++ D.non :: lays cs (nds.length + 1)).length (nds.length : Int) = some nds.length := hm _ []
      rw [sz] at hl
      cases h with
      | look a =>
        have f1 : idx (encT (.nd (.look a) cs)) (.int 0) = some (.str sLook) := by simp only [encT, Hd.node, idx_T, atq_0]
        have f2 : slq (encT (.nd (.look a) cs)) none (some 2) = some (.tup [.str sLook, .int a]) := by simp only [encT, Hd.node, sl_T, cut_t2]
        have f3 : slq (encT (.nd (.look a) cs)) (some 2) none = some (.tup (encTs cs)) := by simp only [encT, Hd.node, sl_T, cut_2]
        exists e0, encT_isZ, frz_encT, f1, f2, f3
        refine nodes_comp (w_nodes k m) hd.2 (by omega) fun q => ?_
        exists e4, e6, e7
        exact hQ
      | draw x y =>
        have f1 : idx (encT (.nd (.draw x y) cs)) (.int 0) = some (.str sDraw) := by simp only [encT, Hd.node, idx_T, atq_0]
        have f2 : slq (encT (.nd (.draw x y) cs)) none (some 2) = some (.tup [.str sDraw, .tup [.int x, .int y]]) := by simp only [encT, Hd.node, sl_T, cut_t2]
        have f3 : slq (encT (.nd (.draw x y) cs)) (some 2) none = some (.tup (encTs cs)) := by simp only [encT, Hd.node, sl_T, cut_2]
        exists e0, encT_isZ, frz_encT, f1, f2, f3
        refine nodes_comp (w_nodes k m) hd.2 (by omega) fun q => ?_
        exists e4, e6, e7
        exact hQ
      | block a b =>
        have f1 : idx (encT (.nd (.block a b) cs)) (.int 0) = some (.str sBlock) := by simp only [encT, Hd.node, idx_T, atq_0]
        have f2 : slq (encT (.nd (.block a b) cs)) none (some 3) = some (.tup [.str sBlock, .int a, .int b]) := by simp only [encT, Hd.node, sl_T, cut_t3]
        have f3 : idx (encT (.nd (.block a b) cs)) (.int 3) = some (.tup (encTs cs)) := by simp only [encT, Hd.node, idx_T, atq_3]
        exists e0, encT_isZ, frz_encT, f1, f2, f3
        refine nodes_comp (w_nodes k m) hd.2 (by omega) fun q => ?_
        exists e3, e5, e6, e7
        exact hQ
theorem w_plan {k n : Nat} {U : TT} {a b : D} {Q : D → Env → Prop} {X : XC} {t} (ha : a.isZ = true) (hb : b.isZ = true) (hd : df n U) (hl : sz U < 1000000) (hQ : Q (.tup [a, b, .tup (lay U 0)]) [none, none, none]) : W (callN tab (k + n + 2) 16 [a, b, encT U]) Q X t := by
  refine C16 ?_
  have e0 : 0 ≤ SZ := by decide
  have e3 : 0 + 1 + 1 + 1 ≤ SZ := by decide
  have fa := frz_isZ a ha
  have fb := frz_isZ b hb
  exists e0, encT_isZ, frz_encT
  refine w_nodes k n U [] _ _ _ hd (by simp only [List.length_nil]; omega) ?_
  exists ha, hb, fa, fb, e3
  exact hQ
end K84
end
section
set_option maxRecDepth 100000
set_option linter.all false
namespace K84
open Sf
local macro_rules
  | `(tactic| trivial) => `(tactic| simp only [WO_some, WO_none, ↓WO_map, ↓WO_bind, WO_iteN, ↓W_ok, ↓W_bad, ↓W_lift, ↓W_bnd, W_iteBad, W_ite, ↓WS_nx, ↓WS_rt, ↓WS_bk, ↓WS_ct, ↓WS_bad, ↓WS_fin, WS_iteBad, WS_ite, W_ok, W_bad, W_lift, W_bnd,
    ↓w_z, w_pS, w_pN, ↓w_varV, ↓w_var, ↓w_cint, ↓w_cbl, ↓w_cnon, ↓w_cstr, ↓w_bin, ↓w_neg, ↓w_cmp, ↓w_chn, ↓w_not, ↓w_and, ↓w_or, ↓w_one, ↓w_ifx, ↓w_tup, ↓w_lst, ↓w_dic0, ↓w_subV, ↓w_subN, ↓w_slcV, ↓w_slcN, ↓w_call, ↓w_bi, ↓w_bi2, ↓w_isi, ↓w_comp, ↓w_anyA, ↓w_pop0, ↓w_pop1, ↓w_index, ↓w_lrng, ↓w_rng1, ↓w_rng2, ↓w_rng3, ↓w_enm, ↓w_zip, ↓w_iV, ↓w_i_sub, ↓w_i_slc, ↓w_i_call, ↓w_i_tup, ↓w_i_comp,
    w_evs0, w_evs, w_evz0, w_evz, w_evc0, w_evc, ↓w_evo0, w_evo0, w_evo, ↓w_tV, ↓w_tcbl, ↓w_tnot, ↓w_tand, ↓w_tor, ↓w_tone, ↓w_t_cmp, ↓w_t_chn, ↓w_t_call, ↓w_t_sub, ↓w_t_isi, ↓w_t_bi, ↓w_t_bin, w_evts0, w_evts,
    s_nil, s_cons, o_none, o_some, ca_none, ca_some, pm_nil, pm_none, pl_nil, pl_cons, gb_none, gb_some, ↓w_has, isL_some, ↓w_hasL, ↓x_asg, ↓x_asgT, ↓x_par, ↓x_aug, setD_L, ↓x_setx, appD_L, ↓x_app, ↓x_expr, ↓x_ret, ↓x_retN, ↓x_ite, ↓x_whl, ↓x_for, ↓x_brk, ↓x_cnt, ↓x_pass, ↓WS_nil, ↓WS_cons, ↓WS_fF, ↓W_cF,
    bt_nm, bt_tp, pu_nil, pu_cons, pk_z, pk_s, pt_z, pt_s, oz_nil, oz_cons, zq_none, zq_some, wp_nil, wp_cons, bk_nil, bk_cons, fe_none, fe_0, fe_1, jn_some, mv_L, mv_D, mv_non, mv_bl, mv_int, mv_str, mv_tup, mv_F, mv_scr, mv_z,
    q_End_end, q_End_look, q_End_block, q_End_draw, q_End_tell, q_End_choose, q_Look_end, q_Look_look, q_Look_block, q_Look_draw, q_Look_tell, q_Look_choose, q_Block_end, q_Block_look, q_Block_block, q_Block_draw, q_Block_tell, q_Block_choose, q_Draw_end, q_Draw_look, q_Draw_block, q_Draw_draw, q_Draw_tell, q_Draw_choose, q_Tell_end, q_Tell_look, q_Tell_block, q_Tell_draw, q_Tell_tell, q_Tell_choose, cut_2, cut_t2, cut_t3,
    slot_var, slot_bad, slot_cint, slot_cbl, slot_cnon, slot_cstr, slot_bin, slot_neg, slot_cmp, slot_chn, slot_not, slot_and, slot_or, slot_ifx, slot_one, slot_tup, slot_lst, slot_sub, slot_slc, slot_call, slot_bi, slot_bi2, slot_isi, slot_comp, slot_lrng, slot_pop0, slot_pop1, slot_index, simple_var, simple_cint, simple_cbl, simple_cnon, simple_cstr, simple_bin, simple_neg, simple_sub, simple_slc, simple_call, simple_bi, simple_bi2, simple_isi, simple_lst, simple_tup, simple_comp, popD, popI, augop, iteq, itemsq, itemsp, List.getElem?_cons_zero, List.getElem?_cons_succ, List.set_cons_zero, List.set_cons_succ, List.replicate_succ, List.replicate_zero, List.map_cons, List.map_nil, List.cons_append, List.nil_append, List.length_cons, List.length_nil,
    Option.bind_some, Option.bind_none, Option.map_some, Option.map_none, Option.join_some, Option.toList_some, Option.toList_none, id_eq,
    frz_non, frz_bl, frz_int, frz_str, frz_tup, frz_lst, frz_dic, frz_scr, isZ_non, isZ_bl, isZ_int, isZ_str, isZ_tup, isZ_lstT, isZ_lstF, isZ_scr, tru_non, tru_bl, tru_int, tru_tup, tru_lst, asInt_int,
    c_eqI, c_neI, c_eqS, c_eqT, c_ltI, c_leI, c_gtI, c_geI, b_addI, b_subI, b_mulI, b_fdivI, b_modI, b_addL, b_addT, b_addS, b_mulL, sl_L, sl_T, bi_lenT, bi_lenL, bi_lenS, bi_absI, bi_intI, bi_listT, bi_listL, bi_listS, bi_tupT, bi_tupL, idx_T, idx_L, atq_0, atq_1, atq_2, atq_3, ixq_0, ixq_1, ixq_2,
    Nat.reduceSub, Nat.reduceAdd, Nat.reduceEqDiff, Int.reduceNeg, Int.reduceAdd, Int.reduceSub, Int.reduceMul, Int.reduceLT, Int.reduceLE, Option.some.injEq, Nat.reduceLeDiff, Nat.zero_add, List.isEmpty_cons, List.isEmpty_nil,
    if_true, if_false, ite_true, ite_false, ↓reduceIte, decide_eq_true_eq, beq_iff_eq, bne_iff_ne, ne_eq, Bool.not_eq_true', Bool.not_eq_eq_eq_not, Bool.and_true, Bool.true_and, Bool.false_and, Bool.not_true, Bool.not_false, Bool.false_eq_true, reduceCtorEq, and_true, true_and, and_self, bltg, isiq,
    f_is_number, f_nexts_of, f_walk, f_lower, f_hopes, f_follows, f_nested, f_law_pool, f_law_draw, f_law_pick, f_law_shuffled, f_law_same, f_law_fraction, f_law_chance, f_law_tree, f_law_nodes, f_law_plan, f_law_names, f_law_bare, f_law_ends, f_law_with_tells, f_law_marks, f_law,
    sig_0, sig_1, sig_2, sig_3, sig_4, sig_5, sig_6, sig_7, sig_8, sig_9, sig_10, sig_11, sig_12, sig_13, sig_14, sig_15, sig_16, sig_17, sig_18, sig_19, sig_20, sig_21, sig_22])
  | `(tactic| exists $es:term,*) => `(tactic| simp only [WO_some, WO_none, ↓WO_map, ↓WO_bind, WO_iteN, ↓W_ok, ↓W_bad, ↓W_lift, ↓W_bnd, W_iteBad, W_ite, ↓WS_nx, ↓WS_rt, ↓WS_bk, ↓WS_ct, ↓WS_bad, ↓WS_fin, WS_iteBad, WS_ite, W_ok, W_bad, W_lift, W_bnd,
    ↓w_z, w_pS, w_pN, ↓w_varV, ↓w_var, ↓w_cint, ↓w_cbl, ↓w_cnon, ↓w_cstr, ↓w_bin, ↓w_neg, ↓w_cmp, ↓w_chn, ↓w_not, ↓w_and, ↓w_or, ↓w_one, ↓w_ifx, ↓w_tup, ↓w_lst, ↓w_dic0, ↓w_subV, ↓w_subN, ↓w_slcV, ↓w_slcN, ↓w_call, ↓w_bi, ↓w_bi2, ↓w_isi, ↓w_comp, ↓w_anyA, ↓w_pop0, ↓w_pop1, ↓w_index, ↓w_lrng, ↓w_rng1, ↓w_rng2, ↓w_rng3, ↓w_enm, ↓w_zip, ↓w_iV, ↓w_i_sub, ↓w_i_slc, ↓w_i_call, ↓w_i_tup, ↓w_i_comp,
    w_evs0, w_evs, w_evz0, w_evz, w_evc0, w_evc, ↓w_evo0, w_evo0, w_evo, ↓w_tV, ↓w_tcbl, ↓w_tnot, ↓w_tand, ↓w_tor, ↓w_tone, ↓w_t_cmp, ↓w_t_chn, ↓w_t_call, ↓w_t_sub, ↓w_t_isi, ↓w_t_bi, ↓w_t_bin, w_evts0, w_evts,
    s_nil, s_cons, o_none, o_some, ca_none, ca_some, pm_nil, pm_none, pl_nil, pl_cons, gb_none, gb_some, ↓w_has, isL_some, ↓w_hasL, ↓x_asg, ↓x_asgT, ↓x_par, ↓x_aug, setD_L, ↓x_setx, appD_L, ↓x_app, ↓x_expr, ↓x_ret, ↓x_retN, ↓x_ite, ↓x_whl, ↓x_for, ↓x_brk, ↓x_cnt, ↓x_pass, ↓WS_nil, ↓WS_cons, ↓WS_fF, ↓W_cF,
    bt_nm, bt_tp, pu_nil, pu_cons, pk_z, pk_s, pt_z, pt_s, oz_nil, oz_cons, zq_none, zq_some, wp_nil, wp_cons, bk_nil, bk_cons, fe_none, fe_0, fe_1, jn_some, mv_L, mv_D, mv_non, mv_bl, mv_int, mv_str, mv_tup, mv_F, mv_scr, mv_z,
    q_End_end, q_End_look, q_End_block, q_End_draw, q_End_tell, q_End_choose, q_Look_end, q_Look_look, q_Look_block, q_Look_draw, q_Look_tell, q_Look_choose, q_Block_end, q_Block_look, q_Block_block, q_Block_draw, q_Block_tell, q_Block_choose, q_Draw_end, q_Draw_look, q_Draw_block, q_Draw_draw, q_Draw_tell, q_Draw_choose, q_Tell_end, q_Tell_look, q_Tell_block, q_Tell_draw, q_Tell_tell, q_Tell_choose, cut_2, cut_t2, cut_t3,
    slot_var, slot_bad, slot_cint, slot_cbl, slot_cnon, slot_cstr, slot_bin, slot_neg, slot_cmp, slot_chn, slot_not, slot_and, slot_or, slot_ifx, slot_one, slot_tup, slot_lst, slot_sub, slot_slc, slot_call, slot_bi, slot_bi2, slot_isi, slot_comp, slot_lrng, slot_pop0, slot_pop1, slot_index, simple_var, simple_cint, simple_cbl, simple_cnon, simple_cstr, simple_bin, simple_neg, simple_sub, simple_slc, simple_call, simple_bi, simple_bi2, simple_isi, simple_lst, simple_tup, simple_comp, popD, popI, augop, iteq, itemsq, itemsp, List.getElem?_cons_zero, List.getElem?_cons_succ, List.set_cons_zero, List.set_cons_succ, List.replicate_succ, List.replicate_zero, List.map_cons, List.map_nil, List.cons_append, List.nil_append, List.length_cons, List.length_nil,
    Option.bind_some, Option.bind_none, Option.map_some, Option.map_none, Option.join_some, Option.toList_some, Option.toList_none, id_eq,
    frz_non, frz_bl, frz_int, frz_str, frz_tup, frz_lst, frz_dic, frz_scr, isZ_non, isZ_bl, isZ_int, isZ_str, isZ_tup, isZ_lstT, isZ_lstF, isZ_scr, tru_non, tru_bl, tru_int, tru_tup, tru_lst, asInt_int,
    c_eqI, c_neI, c_eqS, c_eqT, c_ltI, c_leI, c_gtI, c_geI, b_addI, b_subI, b_mulI, b_fdivI, b_modI, b_addL, b_addT, b_addS, b_mulL, sl_L, sl_T, bi_lenT, bi_lenL, bi_lenS, bi_absI, bi_intI, bi_listT, bi_listL, bi_listS, bi_tupT, bi_tupL, idx_T, idx_L, atq_0, atq_1, atq_2, atq_3, ixq_0, ixq_1, ixq_2,
    Nat.reduceSub, Nat.reduceAdd, Nat.reduceEqDiff, Int.reduceNeg, Int.reduceAdd, Int.reduceSub, Int.reduceMul, Int.reduceLT, Int.reduceLE, Option.some.injEq, Nat.reduceLeDiff, Nat.zero_add, List.isEmpty_cons, List.isEmpty_nil,
    if_true, if_false, ite_true, ite_false, ↓reduceIte, decide_eq_true_eq, beq_iff_eq, bne_iff_ne, ne_eq, Bool.not_eq_true', Bool.not_eq_eq_eq_not, Bool.and_true, Bool.true_and, Bool.false_and, Bool.not_true, Bool.not_false, Bool.false_eq_true, reduceCtorEq, and_true, true_and, and_self, bltg, isiq,
    f_is_number, f_nexts_of, f_walk, f_lower, f_hopes, f_follows, f_nested, f_law_pool, f_law_draw, f_law_pick, f_law_shuffled, f_law_same, f_law_fraction, f_law_chance, f_law_tree, f_law_nodes, f_law_plan, f_law_names, f_law_bare, f_law_ends, f_law_with_tells, f_law_marks, f_law,
    sig_0, sig_1, sig_2, sig_3, sig_4, sig_5, sig_6, sig_7, sig_8, sig_9, sig_10, sig_11, sig_12, sig_13, sig_14, sig_15, sig_16, sig_17, sig_18, sig_19, sig_20, sig_21, sig_22, $[$es:term],*])
/-- a path to an end, how many tells it meets -/
inductive Pth : TT → List Nat → Nat → Prop
  | fin : Pth .fin [] 0
  | tell {c p m} : Pth c p m → Pth (.tell c) p (m + 1)
  | nd {h cs c i p m} : cs[i]? = some c → Pth c p m → Pth (.nd h cs) (i :: p) m
theorem nE_pos_told : ∀ U : TT, (told U).length = nE (bare U) := by
  intro U
  exact (TT.rec (motive_1 := fun U => (told U).length = nE (bare U)) (motive_2 := fun cs => (tolds cs).length = nEs (bares cs))
    (fun c ih => by rw [told, List.length_replicate, bare]) rfl (fun h cs ih => by rw [told, bare, nE, ih]) rfl (fun c cs h1 h2 => by rw [tolds, bares, nEs, List.length_append, h1, h2]) U)
mutual
theorem rows_p : ∀ (U : TT) (pre : Row) (j : Nat) (row : Row), (ends (bare U) pre)[j]? = some row → ∃ (p : List Nat) (m : Nat), row = pre ++ p.map Int.ofNat ∧ Pth U p m ∧ (told U)[j]? = some (decide (0 < m))
  | .fin, pre, j, row, h => by
    rw [bare, ends] at h
    cases j with
    | zero =>
      cases h
      exact ⟨[], 0, by simp, .fin, rfl⟩
    | succ j => cases h
  | .tell c, pre, j, row, h => by
    rw [bare] at h
    obtain ⟨p, m, h1, h2, h3⟩ := rows_p c pre j row h
    refine ⟨p, m + 1, h1, .tell h2, ?_⟩
    have hj : j < nE (bare c) := by
      have := (List.getElem?_eq_some_iff.mp h).1
      rwa [ends_len] at this
    rw [told, List.getElem?_replicate, if_pos hj]
    simp
  | .nd hd cs, pre, j, row, h => by
    rw [bare, ends] at h
    obtain ⟨i, c, p, m, h0, h1, h2, h3⟩ := rows_ps cs pre 0 j row h
    refine ⟨i :: p, m, ?_, .nd h0 h2, by rw [told]; exact h3⟩
    rw [h1, Nat.zero_add]; rfl
theorem rows_ps : ∀ (cs : List TT) (pre : Row) (k j : Nat) (row : Row), (endsL (bares cs) pre k)[j]? = some row → ∃ (i : Nat) (c : TT) (p : List Nat) (m : Nat), cs[i]? = some c ∧ row = pre ++ ((k + i : Nat) : Int) :: p.map Int.ofNat ∧ Pth c p m ∧ (tolds cs)[j]? = some (decide (0 < m))
  | [], pre, k, j, row, h => by rw [bares, endsL] at h; cases h
  | c :: cs, pre, k, j, row, h => by
    rw [bares, endsL] at h
    have hl : (ends (bare c) (pre ++ [(k : Int)])).length = (told c).length := by rw [ends_len, nE_pos_told]
    by_cases hj : j < (ends (bare c) (pre ++ [(k : Int)])).length
    · rw [List.getElem?_append_left hj] at h
      obtain ⟨p, m, h1, h2, h3⟩ := rows_p c _ j row h
      refine ⟨0, c, p, m, rfl, ?_, h2, ?_⟩
      · rw [h1, List.append_assoc]; rfl
      · rw [tolds, List.getElem?_append_left (by rw [← hl]; exact hj)]; exact h3
    · rw [List.getElem?_append_right (by omega)] at h
      obtain ⟨i, c', p, m, h0, h1, h2, h3⟩ := rows_ps cs pre (k + 1) _ row h
      refine ⟨i + 1, c', p, m, h0, ?_, h2, ?_⟩
      · rw [h1, show k + 1 + i = k + (i + 1) by omega]
      · rw [tolds, List.getElem?_append_right (by omega), ← hl]; exact h3
end
/-- the cells from a on are those of U -/
def Seg (L : List D) (U : TT) (a : Nat) : Prop := ∃ xs ys, L = xs ++ lay U a ++ ys ∧ xs.length = a
def cell (U : TT) (a : Nat) : D := match U with
  | .fin => .tup [.str sEnd]
  | .tell _ => .tup [.str sTell, .int 0, .int ((a + 1 : Nat) : Int)]
  | .nd h cs => h.node (nums cs (a + 1))
theorem lay_cell (U : TT) (a : Nat) : ∃ ys, lay U a = cell U a :: ys := by
  cases U <;> exact ⟨_, rfl⟩
theorem seg_at {L : List D} {U : TT} {a : Nat} (h : Seg L U a) : L[a]? = some (cell U a) := by
  obtain ⟨xs, ys, rfl, h2⟩ := h
  obtain ⟨zs, e⟩ := lay_cell U a
  rw [e, List.append_assoc, List.getElem?_append_right (by omega), h2, Nat.sub_self]
  rfl
theorem seg_tell {L : List D} {c : TT} {a : Nat} (h : Seg L (.tell c) a) : Seg L c (a + 1) := by
  obtain ⟨xs, ys, rfl, h2⟩ := h
  refine ⟨xs ++ [cell (.tell c) a], ys, ?_, by rw [List.length_append, h2]; rfl⟩
  rw [lay]; simp [cell]
theorem seg_nd_aux {h : Hd} {a : Nat} : ∀ (cs : List TT) (L xs ys : List D) (b i : Nat) (c : TT), L = xs ++ lays cs b ++ ys → xs.length = b → cs[i]? = some c → ∃ x : Nat, (nums cs b)[i]? = some (.int x) ∧ Seg L c x
  | [], _, _, _, _, i, _, _, _, h => by cases h
  | c :: cs, L, xs, ys, b, 0, c', hL, hx, hc => by
    cases hc
    refine ⟨b, rfl, xs, lays cs (b + sz c) ++ ys, by rw [hL, lays]; simp, hx⟩
  | c :: cs, L, xs, ys, b, i + 1, c', hL, hx, hc => by
    obtain ⟨x, h1, h2⟩ := seg_nd_aux (h := h) (a := a) cs L (xs ++ lay c b) ys (b + sz c) i c' (by rw [hL, lays]; simp) (by rw [List.length_append, hx, lay_len]) hc
    exact ⟨x, h1, h2⟩
theorem seg_nd {L : List D} {h : Hd} {cs : List TT} {a i : Nat} {c : TT} (hs : Seg L (.nd h cs) a) (hc : cs[i]? = some c) : ∃ x : Nat, (nums cs (a + 1))[i]? = some (.int x) ∧ Seg L c x := by
  obtain ⟨xs, ys, hL, h2⟩ := hs
  refine seg_nd_aux (h := h) (a := a) cs L (xs ++ [h.node (nums cs (a + 1))]) ys (a + 1) i c ?_ (by rw [List.length_append, h2]; rfl) hc
  rw [hL, lay]; simp
theorem df_get {n : Nat} : ∀ {cs : List TT} {i : Nat} {c : TT}, dfs n cs → cs[i]? = some c → df n c
  | [], _, _, _, h => by cases h
  | c :: cs, 0, _, h, e => by cases e; exact h.1
  | c :: cs, i + 1, _, h, e => df_get h.2 e
theorem pth_len : ∀ {U : TT} {p : List Nat} {m n : Nat}, Pth U p m → df n U → p.length + m ≤ n := by
  intro U p m n hp
  induction hp generalizing n with
  | fin => intro _; simp
  | tell _ ih =>
    intro hd
    cases n with
    | zero => exact hd.elim
    | succ n => have := ih (n := n) hd; omega
  | nd h0 _ ih =>
    intro hd
    cases n with
    | zero => exact hd.elim
    | succ n =>
      have := ih (n := n) (df_get hd.2 h0)
      simp only [List.length_cons]; omega
/-- where the node leads -/
def chn (U : TT) (a : Nat) : List D := match U with
  | .fin => []
  | .tell _ => [.int ((a + 1 : Nat) : Int)]
  | .nd _ cs => nums cs (a + 1)
theorem w_nexts {k n : Nat} {U : TT} {a : Nat} {Q : D → Env → Prop} {X : XC} {t} (hd : df n U) (hQ : Q (.tup (chn U a)) [none]) : W (callN tab (k + 1) 1 [cell U a]) Q X t := by
  refine C1 ?_
  have e0 : 0 ≤ SZ := by decide
  have e1 : 1 ≤ SZ := by decide
  have e2 : 1 + 1 ≤ SZ := by decide
  cases U with
  | fin =>
    exists cell, q_End_choose, e0
    exact hQ
  | tell c =>
    exists cell, e1
    exact hQ
  | nd h cs =>
    cases n with
    | zero => exact hd.elim
    | succ n =>
      cases h with
      | look x =>
        have h2 : cs.length = 2 := hd.1
        match cs, h2 with
        | [c1, c2], _ =>
          simp only [chn, nums] at hQ
          exists cell, Hd.node, nums, e2
          exact hQ
      | draw x y =>
        have h2 : cs.length = 2 := hd.1
        match cs, h2 with
        | [c1, c2], _ =>
          simp only [chn, nums] at hQ
          exists cell, Hd.node, nums, e2
          exact hQ
      | block x y =>
        exists cell, Hd.node
        exact hQ
end K84
end
section
set_option maxRecDepth 100000
set_option linter.all false
namespace K84
open Sf
local macro_rules
  | `(tactic| trivial) => `(tactic| simp only [WO_some, WO_none, ↓WO_map, ↓WO_bind, WO_iteN, ↓W_ok, ↓W_bad, ↓W_lift, ↓W_bnd, W_iteBad, W_ite, ↓WS_nx, ↓WS_rt, ↓WS_bk, ↓WS_ct, ↓WS_bad, ↓WS_fin, WS_iteBad, WS_ite, W_ok, W_bad, W_lift, W_bnd,
    ↓w_z, w_pS, w_pN, ↓w_varV, ↓w_var, ↓w_cint, ↓w_cbl, ↓w_cnon, ↓w_cstr, ↓w_bin, ↓w_neg, ↓w_cmp, ↓w_chn, ↓w_not, ↓w_and, ↓w_or, ↓w_one, ↓w_ifx, ↓w_tup, ↓w_lst, ↓w_dic0, ↓w_subV, ↓w_subN, ↓w_slcV, ↓w_slcN, ↓w_call, ↓w_bi, ↓w_bi2, ↓w_isi, ↓w_comp, ↓w_anyA, ↓w_pop0, ↓w_pop1, ↓w_index, ↓w_lrng, ↓w_rng1, ↓w_rng2, ↓w_rng3, ↓w_enm, ↓w_zip, ↓w_iV, ↓w_i_sub, ↓w_i_slc, ↓w_i_call, ↓w_i_tup, ↓w_i_comp,
    w_evs0, w_evs, w_evz0, w_evz, w_evc0, w_evc, ↓w_evo0, w_evo0, w_evo, ↓w_tV, ↓w_tcbl, ↓w_tnot, ↓w_tand, ↓w_tor, ↓w_tone, ↓w_t_cmp, ↓w_t_chn, ↓w_t_call, ↓w_t_sub, ↓w_t_isi, ↓w_t_bi, ↓w_t_bin, w_evts0, w_evts,
    s_nil, s_cons, o_none, o_some, ca_none, ca_some, pm_nil, pm_none, pl_nil, pl_cons, gb_none, gb_some, ↓w_has, isL_some, ↓w_hasL, ↓x_asg, ↓x_asgT, ↓x_par, ↓x_aug, setD_L, ↓x_setx, appD_L, ↓x_app, ↓x_expr, ↓x_ret, ↓x_retN, ↓x_ite, ↓x_whl, ↓x_for, ↓x_brk, ↓x_cnt, ↓x_pass, ↓WS_nil, ↓WS_cons, ↓WS_fF, ↓W_cF,
    bt_nm, bt_tp, pu_nil, pu_cons, pk_z, pk_s, pt_z, pt_s, oz_nil, oz_cons, zq_none, zq_some, wp_nil, wp_cons, bk_nil, bk_cons, fe_none, fe_0, fe_1, jn_some, mv_L, mv_D, mv_non, mv_bl, mv_int, mv_str, mv_tup, mv_F, mv_scr, mv_z,
    q_End_end, q_End_look, q_End_block, q_End_draw, q_End_tell, q_End_choose, q_Look_end, q_Look_look, q_Look_block, q_Look_draw, q_Look_tell, q_Look_choose, q_Block_end, q_Block_look, q_Block_block, q_Block_draw, q_Block_tell, q_Block_choose, q_Draw_end, q_Draw_look, q_Draw_block, q_Draw_draw, q_Draw_tell, q_Draw_choose, q_Tell_end, q_Tell_look, q_Tell_block, q_Tell_draw, q_Tell_tell, q_Tell_choose, cut_2, cut_t2, cut_t3,
    slot_var, slot_bad, slot_cint, slot_cbl, slot_cnon, slot_cstr, slot_bin, slot_neg, slot_cmp, slot_chn, slot_not, slot_and, slot_or, slot_ifx, slot_one, slot_tup, slot_lst, slot_sub, slot_slc, slot_call, slot_bi, slot_bi2, slot_isi, slot_comp, slot_lrng, slot_pop0, slot_pop1, slot_index, simple_var, simple_cint, simple_cbl, simple_cnon, simple_cstr, simple_bin, simple_neg, simple_sub, simple_slc, simple_call, simple_bi, simple_bi2, simple_isi, simple_lst, simple_tup, simple_comp, popD, popI, augop, iteq, itemsq, itemsp, List.getElem?_cons_zero, List.getElem?_cons_succ, List.set_cons_zero, List.set_cons_succ, List.replicate_succ, List.replicate_zero, List.map_cons, List.map_nil, List.cons_append, List.nil_append, List.length_cons, List.length_nil,
    Option.bind_some, Option.bind_none, Option.map_some, Option.map_none, Option.join_some, Option.toList_some, Option.toList_none, id_eq,
    frz_non, frz_bl, frz_int, frz_str, frz_tup, frz_lst, frz_dic, frz_scr, isZ_non, isZ_bl, isZ_int, isZ_str, isZ_tup, isZ_lstT, isZ_lstF, isZ_scr, tru_non, tru_bl, tru_int, tru_tup, tru_lst, asInt_int,
    c_eqI, c_neI, c_eqS, c_eqT, c_ltI, c_leI, c_gtI, c_geI, b_addI, b_subI, b_mulI, b_fdivI, b_modI, b_addL, b_addT, b_addS, b_mulL, sl_L, sl_T, bi_lenT, bi_lenL, bi_lenS, bi_absI, bi_intI, bi_listT, bi_listL, bi_listS, bi_tupT, bi_tupL, idx_T, idx_L, atq_0, atq_1, atq_2, atq_3, ixq_0, ixq_1, ixq_2,
    Nat.reduceSub, Nat.reduceAdd, Nat.reduceEqDiff, Int.reduceNeg, Int.reduceAdd, Int.reduceSub, Int.reduceMul, Int.reduceLT, Int.reduceLE, Option.some.injEq, Nat.reduceLeDiff, Nat.zero_add, List.isEmpty_cons, List.isEmpty_nil,
    if_true, if_false, ite_true, ite_false, ↓reduceIte, decide_eq_true_eq, beq_iff_eq, bne_iff_ne, ne_eq, Bool.not_eq_true', Bool.not_eq_eq_eq_not, Bool.and_true, Bool.true_and, Bool.false_and, Bool.not_true, Bool.not_false, Bool.false_eq_true, reduceCtorEq, and_true, true_and, and_self, bltg, isiq,
    f_is_number, f_nexts_of, f_walk, f_lower, f_hopes, f_follows, f_nested, f_law_pool, f_law_draw, f_law_pick, f_law_shuffled, f_law_same, f_law_fraction, f_law_chance, f_law_tree, f_law_nodes, f_law_plan, f_law_names, f_law_bare, f_law_ends, f_law_with_tells, f_law_marks, f_law,
    sig_0, sig_1, sig_2, sig_3, sig_4, sig_5, sig_6, sig_7, sig_8, sig_9, sig_10, sig_11, sig_12, sig_13, sig_14, sig_15, sig_16, sig_17, sig_18, sig_19, sig_20, sig_21, sig_22])
  | `(tactic| exists $es:term,*) => `(tactic| simp only [WO_some, WO_none, ↓WO_map, ↓WO_bind, WO_iteN, ↓W_ok, ↓W_bad, ↓W_lift, ↓W_bnd, W_iteBad, W_ite, ↓WS_nx, ↓WS_rt, ↓WS_bk, ↓WS_ct, ↓WS_bad, ↓WS_fin, WS_iteBad, WS_ite, W_ok, W_bad, W_lift, W_bnd,
    ↓w_z, w_pS, w_pN, ↓w_varV, ↓w_var, ↓w_cint, ↓w_cbl, ↓w_cnon, ↓w_cstr, ↓w_bin, ↓w_neg, ↓w_cmp, ↓w_chn, ↓w_not, ↓w_and, ↓w_or, ↓w_one, ↓w_ifx, ↓w_tup, ↓w_lst, ↓w_dic0, ↓w_subV, ↓w_subN, ↓w_slcV, ↓w_slcN, ↓w_call, ↓w_bi, ↓w_bi2, ↓w_isi, ↓w_comp, ↓w_anyA, ↓w_pop0, ↓w_pop1, ↓w_index, ↓w_lrng, ↓w_rng1, ↓w_rng2, ↓w_rng3, ↓w_enm, ↓w_zip, ↓w_iV, ↓w_i_sub, ↓w_i_slc, ↓w_i_call, ↓w_i_tup, ↓w_i_comp,
    w_evs0, w_evs, w_evz0, w_evz, w_evc0, w_evc, ↓w_evo0, w_evo0, w_evo, ↓w_tV, ↓w_tcbl, ↓w_tnot, ↓w_tand, ↓w_tor, ↓w_tone, ↓w_t_cmp, ↓w_t_chn, ↓w_t_call, ↓w_t_sub, ↓w_t_isi, ↓w_t_bi, ↓w_t_bin, w_evts0, w_evts,
    s_nil, s_cons, o_none, o_some, ca_none, ca_some, pm_nil, pm_none, pl_nil, pl_cons, gb_none, gb_some, ↓w_has, isL_some, ↓w_hasL, ↓x_asg, ↓x_asgT, ↓x_par, ↓x_aug, setD_L, ↓x_setx, appD_L, ↓x_app, ↓x_expr, ↓x_ret, ↓x_retN, ↓x_ite, ↓x_whl, ↓x_for, ↓x_brk, ↓x_cnt, ↓x_pass, ↓WS_nil, ↓WS_cons, ↓WS_fF, ↓W_cF,
    bt_nm, bt_tp, pu_nil, pu_cons, pk_z, pk_s, pt_z, pt_s, oz_nil, oz_cons, zq_none, zq_some, wp_nil, wp_cons, bk_nil, bk_cons, fe_none, fe_0, fe_1, jn_some, mv_L, mv_D, mv_non, mv_bl, mv_int, mv_str, mv_tup, mv_F, mv_scr, mv_z,
    q_End_end, q_End_look, q_End_block, q_End_draw, q_End_tell, q_End_choose, q_Look_end, q_Look_look, q_Look_block, q_Look_draw, q_Look_tell, q_Look_choose, q_Block_end, q_Block_look, q_Block_block, q_Block_draw, q_Block_tell, q_Block_choose, q_Draw_end, q_Draw_look, q_Draw_block, q_Draw_draw, q_Draw_tell, q_Draw_choose, q_Tell_end, q_Tell_look, q_Tell_block, q_Tell_draw, q_Tell_tell, q_Tell_choose, cut_2, cut_t2, cut_t3,
    slot_var, slot_bad, slot_cint, slot_cbl, slot_cnon, slot_cstr, slot_bin, slot_neg, slot_cmp, slot_chn, slot_not, slot_and, slot_or, slot_ifx, slot_one, slot_tup, slot_lst, slot_sub, slot_slc, slot_call, slot_bi, slot_bi2, slot_isi, slot_comp, slot_lrng, slot_pop0, slot_pop1, slot_index, simple_var, simple_cint, simple_cbl, simple_cnon, simple_cstr, simple_bin, simple_neg, simple_sub, simple_slc, simple_call, simple_bi, simple_bi2, simple_isi, simple_lst, simple_tup, simple_comp, popD, popI, augop, iteq, itemsq, itemsp, List.getElem?_cons_zero, List.getElem?_cons_succ, List.set_cons_zero, List.set_cons_succ, List.replicate_succ, List.replicate_zero, List.map_cons, List.map_nil, List.cons_append, List.nil_append, List.length_cons, List.length_nil,
    Option.bind_some, Option.bind_none, Option.map_some, Option.map_none, Option.join_some, Option.toList_some, Option.toList_none, id_eq,
    frz_non, frz_bl, frz_int, frz_str, frz_tup, frz_lst, frz_dic, frz_scr, isZ_non, isZ_bl, isZ_int, isZ_str, isZ_tup, isZ_lstT, isZ_lstF, isZ_scr, tru_non, tru_bl, tru_int, tru_tup, tru_lst, asInt_int,
    c_eqI, c_neI, c_eqS, c_eqT, c_ltI, c_leI, c_gtI, c_geI, b_addI, b_subI, b_mulI, b_fdivI, b_modI, b_addL, b_addT, b_addS, b_mulL, sl_L, sl_T, bi_lenT, bi_lenL, bi_lenS, bi_absI, bi_intI, bi_listT, bi_listL, bi_listS, bi_tupT, bi_tupL, idx_T, idx_L, atq_0, atq_1, atq_2, atq_3, ixq_0, ixq_1, ixq_2,
    Nat.reduceSub, Nat.reduceAdd, Nat.reduceEqDiff, Int.reduceNeg, Int.reduceAdd, Int.reduceSub, Int.reduceMul, Int.reduceLT, Int.reduceLE, Option.some.injEq, Nat.reduceLeDiff, Nat.zero_add, List.isEmpty_cons, List.isEmpty_nil,
    if_true, if_false, ite_true, ite_false, ↓reduceIte, decide_eq_true_eq, beq_iff_eq, bne_iff_ne, ne_eq, Bool.not_eq_true', Bool.not_eq_eq_eq_not, Bool.and_true, Bool.true_and, Bool.false_and, Bool.not_true, Bool.not_false, Bool.false_eq_true, reduceCtorEq, and_true, true_and, and_self, bltg, isiq,
    f_is_number, f_nexts_of, f_walk, f_lower, f_hopes, f_follows, f_nested, f_law_pool, f_law_draw, f_law_pick, f_law_shuffled, f_law_same, f_law_fraction, f_law_chance, f_law_tree, f_law_nodes, f_law_plan, f_law_names, f_law_bare, f_law_ends, f_law_with_tells, f_law_marks, f_law,
    sig_0, sig_1, sig_2, sig_3, sig_4, sig_5, sig_6, sig_7, sig_8, sig_9, sig_10, sig_11, sig_12, sig_13, sig_14, sig_15, sig_16, sig_17, sig_18, sig_19, sig_20, sig_21, sig_22, $[$es:term],*])
theorem sort_rep : ∀ z : Nat, sortI (List.replicate z 0) = List.replicate z 0
  | 0 => rfl
  | z + 1 => by
    show insI 0 (sortI (List.replicate z 0)) = 0 :: List.replicate z 0
    rw [sort_rep z]
    cases z <;> rfl
theorem sorted_rep (o : Bool) (z : Nat) : bltf .sorted (.lst o (List.replicate z (.int 0))) = some (.lst true (List.replicate z (.int 0))) := by
  have h : List.replicate z (D.int 0) = (List.replicate z (0 : Int)).map .int := by rw [List.map_replicate]
  rw [h, sorted_L, sort_rep]
theorem cell_tup (U : TT) (a : Nat) : ∃ xs, cell U a = .tup xs := by
  cases U with
  | fin => exact ⟨_, rfl⟩
  | tell c => exact ⟨_, rfl⟩
  | nd h cs => cases h <;> exact ⟨_, rfl⟩
theorem frz_cell (U : TT) (a : Nat) : (cell U a).frz = cell U a := by
  obtain ⟨xs, e⟩ := cell_tup U a
  rw [e]; rfl
theorem cell_isZ (U : TT) (a : Nat) : (cell U a).isZ = true := by
  obtain ⟨xs, e⟩ := cell_tup U a
  rw [e]; rfl
def rowN (p : List Nat) : D := .tup (p.map fun i : Nat => .int (i : Int))
theorem row_at (pre : List Nat) (i : Nat) (p : List Nat) : atq ((pre ++ i :: p).map fun i : Nat => D.int (i : Int)) (pre.length : Int) = some (.int i) := by
  rw [atq_nat, List.getElem?_map, List.getElem?_append_right (Nat.le_refl _), Nat.sub_self]; rfl
def I2 (plan : D) (L : List D) (row : List Nat) (M : Nat) (n : Nat) (r : Env) : Prop := ∃ (c : TT) (a d : Nat) (pre p : List Nat) (m z : Nat) (q6 q7 : Option D), Seg L c a ∧ Pth c p m ∧ df d c ∧ row = pre ++ p ∧ z + m = M ∧ n = p.length + m ∧ r = [some plan, some (rowN row), some (.tup L), some (.int a), some (.int pre.length), some (.lst true (List.replicate z (.int 0))), q6, q7]
theorem w_isnum {k : Nat} {i : Int} {Q : D → Env → Prop} {X : XC} {t} (h : Q (.bl true) [none]) : W (callN tab (k + 1) 0 [.int i]) Q X t := W_of (isnum_run k i) h
theorem w_walk {k n : Nat} {U : TT} {a b : D} {p : List Nat} {M : Nat} {Q : D → Env → Prop} {X : XC} {t} (hd : df n U) (hn : n < 1000) (hp : Pth U p M) (hQ : ∀ x y, Q (.tup [x, .tup (List.replicate M (.int 0)), y]) [none, none]) : W (callN tab (k + 2) 2 [.tup [a, b, .tup (lay U 0)], rowN p]) Q X t := by
  refine C2 ?_
  rw [walk_is]
  have e0 : 0 ≤ SZ := by decide
  have e3 : 0 + 1 + 1 + 1 ≤ SZ := by decide
  have eS : 1000 < SZ := by decide
  have hb := pth_len hp hd
  have hW : WH = 100000 := rfl
  unfold walk_0 walk_1 walk_2 walk_3 walk_4
  exists e0
  refine whW (p.length + M) (I2 (.tup [a, b, .tup (lay U 0)]) (lay U 0) p M) (by omega) ⟨U, 0, n, [], p, M, 0, none, none, ⟨[], [], by simp, rfl⟩, hp, hd, rfl, by omega, rfl, rfl⟩ ?_
  rintro n r ⟨c, a, d, pre, p', m, z, q6, q7, hs, hpc, hdc, h1, h2, h3, rfl⟩
  have e1 : atq (lay U 0) (a : Int) = some (cell c a) := by rw [atq_nat]; exact seg_at hs
  cases hpc with
  | fin =>
    have f1 : idx (cell .fin a) (.int 0) = some (.str sEnd) := by simp only [cell, idx_T, atq_0]
    exists e1, frz_cell, cell_isZ, f1, sorted_rep, e3, rowN
    have : z = M := by omega
    subst this
    exact hQ _ _
  | @tell c p' m hpc =>
    have f1 : idx (cell (.tell c) a) (.int 0) = some (.str sTell) := by simp only [cell, idx_T, atq_0]
    have f2 : idx (cell (.tell c) a) (.int 1) = some (.int 0) := by simp only [cell, idx_T, atq_1]
    have f3 : idx (cell (.tell c) a) (.int 2) = some (.int ((a + 1 : Nat) : Int)) := by simp only [cell, idx_T, atq_2]
    have f4 : z < SZ := by omega
    exists e1, frz_cell, cell_isZ, f1, f2, f3, List.length_replicate, f4
    cases d with
    | zero => exact hdc.elim
    | succ d =>
      refine ⟨p'.length + m, by omega, c, a + 1, d, pre, p', m, z + 1, some (cell (.tell c) a), q7, seg_tell hs, hpc, hdc, h1, by omega, rfl, ?_⟩
      rw [← List.replicate_succ']
  | @nd h cs c i p' m hc hpc =>
    have f1 : ∃ x, idx (cell (.nd h cs) a) (.int 0) = some (.str x) ∧ (x = [116, 101, 108, 108]) = False ∧ (x = [101, 110, 100]) = False := by
      cases h with
      | look x => exact ⟨sLook, by simp only [cell, Hd.node, idx_T, atq_0], q_Look_tell, q_Look_end⟩
      | draw x y => exact ⟨sDraw, by simp only [cell, Hd.node, idx_T, atq_0], q_Draw_tell, q_Draw_end⟩
      | block x y => exact ⟨sBlock, by simp only [cell, Hd.node, idx_T, atq_0], q_Block_tell, q_Block_end⟩
    obtain ⟨x, f1, f2, f3⟩ := f1
    have e4 : ((pre.length : Int) = ((p.map fun i : Nat => D.int (i : Int)).length : Int)) = False := by
      rw [h1]
      simp only [List.length_map, List.length_append, List.length_cons]
      simp only [eq_iff_iff, iff_false]; omega
    exists e1, frz_cell, cell_isZ, f1, f2, f3, rowN, e4
    refine w_nexts hdc ?_
    have e5 : atq (p.map fun i : Nat => D.int (i : Int)) (pre.length : Int) = some (.int i) := by rw [h1]; exact row_at pre i p'
    exists e5
    refine w_isnum ?_
    have f4 : (0 : Int) ≤ (i : Int) := by omega
    have hlt : i < cs.length := (List.getElem?_eq_some_iff.mp hc).1
    have f5 : (i : Int) < ((chn (.nd h cs) a).length : Int) := by
      rw [chn, nums_len]; omega
    obtain ⟨x2, g1, g2⟩ := seg_nd hs hc
    have f6 : atq (chn (.nd h cs) a) (i : Int) = some (.int x2) := by rw [atq_nat]; exact g1
    exists e5, f4, f5, f6, decide_true
    cases d with
    | zero => exact hdc.elim
    | succ d =>
      refine ⟨p'.length + m, by simp only [List.length_cons] at h3; omega, c, x2, d, pre ++ [i], p', m, z, some (cell (.nd h cs) a), some (.tup (chn (.nd h cs) a)), g2, hpc, df_get hdc.2 hc, by rw [h1]; simp, h2, rfl, ?_⟩
      rw [List.length_append]; rfl
end K84
end
section
set_option maxRecDepth 100000
set_option linter.all false
namespace K84
open Sf
local macro_rules
  | `(tactic| trivial) => `(tactic| simp only [WO_some, WO_none, ↓WO_map, ↓WO_bind, WO_iteN, ↓W_ok, ↓W_bad, ↓W_lift, ↓W_bnd, W_iteBad, W_ite, ↓WS_nx, ↓WS_rt, ↓WS_bk, ↓WS_ct, ↓WS_bad, ↓WS_fin, WS_iteBad, WS_ite, W_ok, W_bad, W_lift, W_bnd,
    ↓w_z, w_pS, w_pN, ↓w_varV, ↓w_var, ↓w_cint, ↓w_cbl, ↓w_cnon, ↓w_cstr, ↓w_bin, ↓w_neg, ↓w_cmp, ↓w_chn, ↓w_not, ↓w_and, ↓w_or, ↓w_one, ↓w_ifx, ↓w_tup, ↓w_lst, ↓w_dic0, ↓w_subV, ↓w_subN, ↓w_slcV, ↓w_slcN, ↓w_call, ↓w_bi, ↓w_bi2, ↓w_isi, ↓w_comp, ↓w_anyA, ↓w_pop0, ↓w_pop1, ↓w_index, ↓w_lrng, ↓w_rng1, ↓w_rng2, ↓w_rng3, ↓w_enm, ↓w_zip, ↓w_iV, ↓w_i_sub, ↓w_i_slc, ↓w_i_call, ↓w_i_tup, ↓w_i_comp,
    w_evs0, w_evs, w_evz0, w_evz, w_evc0, w_evc, ↓w_evo0, w_evo0, w_evo, ↓w_tV, ↓w_tcbl, ↓w_tnot, ↓w_tand, ↓w_tor, ↓w_tone, ↓w_t_cmp, ↓w_t_chn, ↓w_t_call, ↓w_t_sub, ↓w_t_isi, ↓w_t_bi, ↓w_t_bin, w_evts0, w_evts,
    s_nil, s_cons, o_none, o_some, ca_none, ca_some, pm_nil, pm_none, pl_nil, pl_cons, gb_none, gb_some, ↓w_has, isL_some, ↓w_hasL, ↓x_asg, ↓x_asgT, ↓x_par, ↓x_aug, setD_L, ↓x_setx, appD_L, ↓x_app, ↓x_expr, ↓x_ret, ↓x_retN, ↓x_ite, ↓x_whl, ↓x_for, ↓x_brk, ↓x_cnt, ↓x_pass, ↓WS_nil, ↓WS_cons, ↓WS_fF, ↓W_cF,
    bt_nm, bt_tp, pu_nil, pu_cons, pk_z, pk_s, pt_z, pt_s, oz_nil, oz_cons, zq_none, zq_some, wp_nil, wp_cons, bk_nil, bk_cons, fe_none, fe_0, fe_1, jn_some, mv_L, mv_D, mv_non, mv_bl, mv_int, mv_str, mv_tup, mv_F, mv_scr, mv_z,
    q_End_end, q_End_look, q_End_block, q_End_draw, q_End_tell, q_End_choose, q_Look_end, q_Look_look, q_Look_block, q_Look_draw, q_Look_tell, q_Look_choose, q_Block_end, q_Block_look, q_Block_block, q_Block_draw, q_Block_tell, q_Block_choose, q_Draw_end, q_Draw_look, q_Draw_block, q_Draw_draw, q_Draw_tell, q_Draw_choose, q_Tell_end, q_Tell_look, q_Tell_block, q_Tell_draw, q_Tell_tell, q_Tell_choose, cut_2, cut_t2, cut_t3,
    slot_var, slot_bad, slot_cint, slot_cbl, slot_cnon, slot_cstr, slot_bin, slot_neg, slot_cmp, slot_chn, slot_not, slot_and, slot_or, slot_ifx, slot_one, slot_tup, slot_lst, slot_sub, slot_slc, slot_call, slot_bi, slot_bi2, slot_isi, slot_comp, slot_lrng, slot_pop0, slot_pop1, slot_index, simple_var, simple_cint, simple_cbl, simple_cnon, simple_cstr, simple_bin, simple_neg, simple_sub, simple_slc, simple_call, simple_bi, simple_bi2, simple_isi, simple_lst, simple_tup, simple_comp, popD, popI, augop, iteq, itemsq, itemsp, List.getElem?_cons_zero, List.getElem?_cons_succ, List.set_cons_zero, List.set_cons_succ, List.replicate_succ, List.replicate_zero, List.map_cons, List.map_nil, List.cons_append, List.nil_append, List.length_cons, List.length_nil,
    Option.bind_some, Option.bind_none, Option.map_some, Option.map_none, Option.join_some, Option.toList_some, Option.toList_none, id_eq,
    frz_non, frz_bl, frz_int, frz_str, frz_tup, frz_lst, frz_dic, frz_scr, isZ_non, isZ_bl, isZ_int, isZ_str, isZ_tup, isZ_lstT, isZ_lstF, isZ_scr, tru_non, tru_bl, tru_int, tru_tup, tru_lst, asInt_int,
    c_eqI, c_neI, c_eqS, c_eqT, c_ltI, c_leI, c_gtI, c_geI, b_addI, b_subI, b_mulI, b_fdivI, b_modI, b_addL, b_addT, b_addS, b_mulL, sl_L, sl_T, bi_lenT, bi_lenL, bi_lenS, bi_absI, bi_intI, bi_listT, bi_listL, bi_listS, bi_tupT, bi_tupL, idx_T, idx_L, atq_0, atq_1, atq_2, atq_3, ixq_0, ixq_1, ixq_2,
    Nat.reduceSub, Nat.reduceAdd, Nat.reduceEqDiff, Int.reduceNeg, Int.reduceAdd, Int.reduceSub, Int.reduceMul, Int.reduceLT, Int.reduceLE, Option.some.injEq, Nat.reduceLeDiff, Nat.zero_add, List.isEmpty_cons, List.isEmpty_nil,
    if_true, if_false, ite_true, ite_false, ↓reduceIte, decide_eq_true_eq, beq_iff_eq, bne_iff_ne, ne_eq, Bool.not_eq_true', Bool.not_eq_eq_eq_not, Bool.and_true, Bool.true_and, Bool.false_and, Bool.not_true, Bool.not_false, Bool.false_eq_true, reduceCtorEq, and_true, true_and, and_self, bltg, isiq,
    f_is_number, f_nexts_of, f_walk, f_lower, f_hopes, f_follows, f_nested, f_law_pool, f_law_draw, f_law_pick, f_law_shuffled, f_law_same, f_law_fraction, f_law_chance, f_law_tree, f_law_nodes, f_law_plan, f_law_names, f_law_bare, f_law_ends, f_law_with_tells, f_law_marks, f_law,
    sig_0, sig_1, sig_2, sig_3, sig_4, sig_5, sig_6, sig_7, sig_8, sig_9, sig_10, sig_11, sig_12, sig_13, sig_14, sig_15, sig_16, sig_17, sig_18, sig_19, sig_20, sig_21, sig_22])
  | `(tactic| exists $es:term,*) => `(tactic| simp only [WO_some, WO_none, ↓WO_map, ↓WO_bind, WO_iteN, ↓W_ok, ↓W_bad, ↓W_lift, ↓W_bnd, W_iteBad, W_ite, ↓WS_nx, ↓WS_rt, ↓WS_bk, ↓WS_ct, ↓WS_bad, ↓WS_fin, WS_iteBad, WS_ite, W_ok, W_bad, W_lift, W_bnd,
    ↓w_z, w_pS, w_pN, ↓w_varV, ↓w_var, ↓w_cint, ↓w_cbl, ↓w_cnon, ↓w_cstr, ↓w_bin, ↓w_neg, ↓w_cmp, ↓w_chn, ↓w_not, ↓w_and, ↓w_or, ↓w_one, ↓w_ifx, ↓w_tup, ↓w_lst, ↓w_dic0, ↓w_subV, ↓w_subN, ↓w_slcV, ↓w_slcN, ↓w_call, ↓w_bi, ↓w_bi2, ↓w_isi, ↓w_comp, ↓w_anyA, ↓w_pop0, ↓w_pop1, ↓w_index, ↓w_lrng, ↓w_rng1, ↓w_rng2, ↓w_rng3, ↓w_enm, ↓w_zip, ↓w_iV, ↓w_i_sub, ↓w_i_slc, ↓w_i_call, ↓w_i_tup, ↓w_i_comp,
    w_evs0, w_evs, w_evz0, w_evz, w_evc0, w_evc, ↓w_evo0, w_evo0, w_evo, ↓w_tV, ↓w_tcbl, ↓w_tnot, ↓w_tand, ↓w_tor, ↓w_tone, ↓w_t_cmp, ↓w_t_chn, ↓w_t_call, ↓w_t_sub, ↓w_t_isi, ↓w_t_bi, ↓w_t_bin, w_evts0, w_evts,
    s_nil, s_cons, o_none, o_some, ca_none, ca_some, pm_nil, pm_none, pl_nil, pl_cons, gb_none, gb_some, ↓w_has, isL_some, ↓w_hasL, ↓x_asg, ↓x_asgT, ↓x_par, ↓x_aug, setD_L, ↓x_setx, appD_L, ↓x_app, ↓x_expr, ↓x_ret, ↓x_retN, ↓x_ite, ↓x_whl, ↓x_for, ↓x_brk, ↓x_cnt, ↓x_pass, ↓WS_nil, ↓WS_cons, ↓WS_fF, ↓W_cF,
    bt_nm, bt_tp, pu_nil, pu_cons, pk_z, pk_s, pt_z, pt_s, oz_nil, oz_cons, zq_none, zq_some, wp_nil, wp_cons, bk_nil, bk_cons, fe_none, fe_0, fe_1, jn_some, mv_L, mv_D, mv_non, mv_bl, mv_int, mv_str, mv_tup, mv_F, mv_scr, mv_z,
    q_End_end, q_End_look, q_End_block, q_End_draw, q_End_tell, q_End_choose, q_Look_end, q_Look_look, q_Look_block, q_Look_draw, q_Look_tell, q_Look_choose, q_Block_end, q_Block_look, q_Block_block, q_Block_draw, q_Block_tell, q_Block_choose, q_Draw_end, q_Draw_look, q_Draw_block, q_Draw_draw, q_Draw_tell, q_Draw_choose, q_Tell_end, q_Tell_look, q_Tell_block, q_Tell_draw, q_Tell_tell, q_Tell_choose, cut_2, cut_t2, cut_t3,
    slot_var, slot_bad, slot_cint, slot_cbl, slot_cnon, slot_cstr, slot_bin, slot_neg, slot_cmp, slot_chn, slot_not, slot_and, slot_or, slot_ifx, slot_one, slot_tup, slot_lst, slot_sub, slot_slc, slot_call, slot_bi, slot_bi2, slot_isi, slot_comp, slot_lrng, slot_pop0, slot_pop1, slot_index, simple_var, simple_cint, simple_cbl, simple_cnon, simple_cstr, simple_bin, simple_neg, simple_sub, simple_slc, simple_call, simple_bi, simple_bi2, simple_isi, simple_lst, simple_tup, simple_comp, popD, popI, augop, iteq, itemsq, itemsp, List.getElem?_cons_zero, List.getElem?_cons_succ, List.set_cons_zero, List.set_cons_succ, List.replicate_succ, List.replicate_zero, List.map_cons, List.map_nil, List.cons_append, List.nil_append, List.length_cons, List.length_nil,
    Option.bind_some, Option.bind_none, Option.map_some, Option.map_none, Option.join_some, Option.toList_some, Option.toList_none, id_eq,
    frz_non, frz_bl, frz_int, frz_str, frz_tup, frz_lst, frz_dic, frz_scr, isZ_non, isZ_bl, isZ_int, isZ_str, isZ_tup, isZ_lstT, isZ_lstF, isZ_scr, tru_non, tru_bl, tru_int, tru_tup, tru_lst, asInt_int,
    c_eqI, c_neI, c_eqS, c_eqT, c_ltI, c_leI, c_gtI, c_geI, b_addI, b_subI, b_mulI, b_fdivI, b_modI, b_addL, b_addT, b_addS, b_mulL, sl_L, sl_T, bi_lenT, bi_lenL, bi_lenS, bi_absI, bi_intI, bi_listT, bi_listL, bi_listS, bi_tupT, bi_tupL, idx_T, idx_L, atq_0, atq_1, atq_2, atq_3, ixq_0, ixq_1, ixq_2,
    Nat.reduceSub, Nat.reduceAdd, Nat.reduceEqDiff, Int.reduceNeg, Int.reduceAdd, Int.reduceSub, Int.reduceMul, Int.reduceLT, Int.reduceLE, Option.some.injEq, Nat.reduceLeDiff, Nat.zero_add, List.isEmpty_cons, List.isEmpty_nil,
    if_true, if_false, ite_true, ite_false, ↓reduceIte, decide_eq_true_eq, beq_iff_eq, bne_iff_ne, ne_eq, Bool.not_eq_true', Bool.not_eq_eq_eq_not, Bool.and_true, Bool.true_and, Bool.false_and, Bool.not_true, Bool.not_false, Bool.false_eq_true, reduceCtorEq, and_true, true_and, and_self, bltg, isiq,
    f_is_number, f_nexts_of, f_walk, f_lower, f_hopes, f_follows, f_nested, f_law_pool, f_law_draw, f_law_pick, f_law_shuffled, f_law_same, f_law_fraction, f_law_chance, f_law_tree, f_law_nodes, f_law_plan, f_law_names, f_law_bare, f_law_ends, f_law_with_tells, f_law_marks, f_law,
    sig_0, sig_1, sig_2, sig_3, sig_4, sig_5, sig_6, sig_7, sig_8, sig_9, sig_10, sig_11, sig_12, sig_13, sig_14, sig_15, sig_16, sig_17, sig_18, sig_19, sig_20, sig_21, sig_22, $[$es:term],*])
def plD (a b : D) (U : TT) : D := .tup [a, b, .tup (lay U 0)]
def dueL : List Bool → Int → Int
  | [], n => n - 1
  | b :: bs, n => if b = true then dueL bs (n + 1) else n - 1
theorem shps_rep (n M : Nat) : D.shps n (List.replicate M (.int 0)) = true := by
  induction M with
  | zero => rfl
  | succ M ih => rw [List.replicate_succ, D.shps, ih]; rfl
theorem eqOk_told (M : Nat) : D.eqOk (.tup (List.replicate M (.int 0))) (.tup []) = true := by
  unfold D.eqOk
  have h1 : D.shp 60 (.tup (List.replicate M (.int 0))) = true := by rw [D.shp]; exact shps_rep 59 M
  have h2 : D.shp 60 (.tup []) = true := by rw [D.shp]; rfl
  rw [h1, h2]
  simp
theorem eqOk_00 : D.eqOk (.tup []) (.tup []) = true := eqOk_told 0
theorem eqvs_00 : D.eqvs [] [] = true := by simp only [D.eqvs]
theorem eqvs_told (M : Nat) (h : ¬ M = 0) : D.eqvs (List.replicate M (.int 0)) [] = false := by
  cases M with
  | zero => exact absurd rfl h
  | succ M => rw [List.replicate_succ]; simp only [D.eqvs]
theorem enumq_cons (n : Nat) (x : D) (xs : List D) : enumq n (x :: xs) = .tup [.int n, x] :: enumq (n + 1) xs := rfl
theorem w_lower {k n : Nat} {a b marks : D} {UM : List (TT × Nat)} {p : List Nat} {Q : D → Env → Prop} {X : XC} {t} (hn : n < 1000) (hU : ∀ x ∈ UM, df n x.1 ∧ Pth x.1 p x.2) (hQ : Q (.int (dueL (UM.map fun x => decide (0 < x.2)) 0)) [none, none, none]) : W (callN tab (k + 3) 3 [.tup (UM.map fun x => plD a b x.1), marks, rowN p]) Q X t := by
  refine C3 ?_
  trivial
  refine forW (fun xs r => ∃ (done rest : List (TT × Nat)) (q q2 : Option D), UM = done ++ rest ∧ xs = enumq done.length (rest.map fun x => plD a b x.1) ∧ dueL (UM.map fun x => decide (0 < x.2)) 0 = dueL (rest.map fun x => decide (0 < x.2)) done.length ∧ r = [some (.tup (UM.map fun x => plD a b x.1)), some marks, some (rowN p), q, q2]) ⟨[], UM, none, none, rfl, rfl, rfl, rfl⟩ ?_ ?_
  · rintro x xs r ⟨done, rest, q, q2, h1, h2, h3, rfl⟩
    cases rest with
    | nil => cases h2
    | cons y rest =>
      rw [List.map_cons, enumq_cons] at h2
      obtain ⟨rfl, rfl⟩ := List.cons.inj h2
      have hy := hU y (by rw [h1]; simp)
      have e0 : 0 ≤ SZ := by decide
      have hpl : (plD a b y.1).isZ = true := rfl
      have hpf : (plD a b y.1).frz = plD a b y.1 := rfl
      have hrf : (rowN p).frz = rowN p := rfl
      have hri : (rowN p).isZ = true := rfl
      exists hpl, hpf, hrf, hri
      refine w_walk hy.1 hn hy.2 fun x1 y1 => ?_
      rw [List.map_cons, dueL] at h3
      by_cases hM : y.2 = 0
      · exists e0, hM, eqOk_00, eqvs_00
        rw [hM] at h3
        rw [show decide (0 < 0) = false from rfl, if_neg (by decide)] at h3
        rw [← h3]
        exact hQ
      · exists e0, eqOk_told y.2, eqvs_told y.2 hM
        rw [if_pos (by rw [decide_eq_true_eq]; omega)] at h3
        exact ⟨done ++ [y], rest, _, _, by rw [h1]; simp, by rw [List.length_append]; rfl, by rw [List.length_append]; exact h3, rfl⟩
  · rintro r ⟨done, rest, q, q2, h1, h2, h3, rfl⟩
    cases rest with
    | cons y rest => cases h2
    | nil =>
      exists List.length_map
      rw [List.append_nil] at h1
      rw [h3] at hQ
      rw [h1]
      exact hQ
end K84
end
section
set_option maxRecDepth 100000
set_option linter.all false
namespace K84
open Sf
local macro_rules
  | `(tactic| trivial) => `(tactic| simp only [WO_some, WO_none, ↓WO_map, ↓WO_bind, WO_iteN, ↓W_ok, ↓W_bad, ↓W_lift, ↓W_bnd, W_iteBad, W_ite, ↓WS_nx, ↓WS_rt, ↓WS_bk, ↓WS_ct, ↓WS_bad, ↓WS_fin, WS_iteBad, WS_ite, W_ok, W_bad, W_lift, W_bnd,
    ↓w_z, w_pS, w_pN, ↓w_varV, ↓w_var, ↓w_cint, ↓w_cbl, ↓w_cnon, ↓w_cstr, ↓w_bin, ↓w_neg, ↓w_cmp, ↓w_chn, ↓w_not, ↓w_and, ↓w_or, ↓w_one, ↓w_ifx, ↓w_tup, ↓w_lst, ↓w_dic0, ↓w_subV, ↓w_subN, ↓w_slcV, ↓w_slcN, ↓w_call, ↓w_bi, ↓w_bi2, ↓w_isi, ↓w_comp, ↓w_anyA, ↓w_pop0, ↓w_pop1, ↓w_index, ↓w_lrng, ↓w_rng1, ↓w_rng2, ↓w_rng3, ↓w_enm, ↓w_zip, ↓w_iV, ↓w_i_sub, ↓w_i_slc, ↓w_i_call, ↓w_i_tup, ↓w_i_comp,
    w_evs0, w_evs, w_evz0, w_evz, w_evc0, w_evc, ↓w_evo0, w_evo0, w_evo, ↓w_tV, ↓w_tcbl, ↓w_tnot, ↓w_tand, ↓w_tor, ↓w_tone, ↓w_t_cmp, ↓w_t_chn, ↓w_t_call, ↓w_t_sub, ↓w_t_isi, ↓w_t_bi, ↓w_t_bin, w_evts0, w_evts,
    s_nil, s_cons, o_none, o_some, ca_none, ca_some, pm_nil, pm_none, pl_nil, pl_cons, gb_none, gb_some, ↓w_has, isL_some, ↓w_hasL, ↓x_asg, ↓x_asgT, ↓x_par, ↓x_aug, setD_L, ↓x_setx, appD_L, ↓x_app, ↓x_expr, ↓x_ret, ↓x_retN, ↓x_ite, ↓x_whl, ↓x_for, ↓x_brk, ↓x_cnt, ↓x_pass, ↓WS_nil, ↓WS_cons, ↓WS_fF, ↓W_cF,
    bt_nm, bt_tp, pu_nil, pu_cons, pk_z, pk_s, pt_z, pt_s, oz_nil, oz_cons, zq_none, zq_some, wp_nil, wp_cons, bk_nil, bk_cons, fe_none, fe_0, fe_1, jn_some, mv_L, mv_D, mv_non, mv_bl, mv_int, mv_str, mv_tup, mv_F, mv_scr, mv_z,
    q_End_end, q_End_look, q_End_block, q_End_draw, q_End_tell, q_End_choose, q_Look_end, q_Look_look, q_Look_block, q_Look_draw, q_Look_tell, q_Look_choose, q_Block_end, q_Block_look, q_Block_block, q_Block_draw, q_Block_tell, q_Block_choose, q_Draw_end, q_Draw_look, q_Draw_block, q_Draw_draw, q_Draw_tell, q_Draw_choose, q_Tell_end, q_Tell_look, q_Tell_block, q_Tell_draw, q_Tell_tell, q_Tell_choose, cut_2, cut_t2, cut_t3,
    slot_var, slot_bad, slot_cint, slot_cbl, slot_cnon, slot_cstr, slot_bin, slot_neg, slot_cmp, slot_chn, slot_not, slot_and, slot_or, slot_ifx, slot_one, slot_tup, slot_lst, slot_sub, slot_slc, slot_call, slot_bi, slot_bi2, slot_isi, slot_comp, slot_lrng, slot_pop0, slot_pop1, slot_index, simple_var, simple_cint, simple_cbl, simple_cnon, simple_cstr, simple_bin, simple_neg, simple_sub, simple_slc, simple_call, simple_bi, simple_bi2, simple_isi, simple_lst, simple_tup, simple_comp, popD, popI, augop, iteq, itemsq, itemsp, List.getElem?_cons_zero, List.getElem?_cons_succ, List.set_cons_zero, List.set_cons_succ, List.replicate_succ, List.replicate_zero, List.map_cons, List.map_nil, List.cons_append, List.nil_append, List.length_cons, List.length_nil,
    Option.bind_some, Option.bind_none, Option.map_some, Option.map_none, Option.join_some, Option.toList_some, Option.toList_none, id_eq,
    frz_non, frz_bl, frz_int, frz_str, frz_tup, frz_lst, frz_dic, frz_scr, isZ_non, isZ_bl, isZ_int, isZ_str, isZ_tup, isZ_lstT, isZ_lstF, isZ_scr, tru_non, tru_bl, tru_int, tru_tup, tru_lst, asInt_int,
    c_eqI, c_neI, c_eqS, c_eqT, c_ltI, c_leI, c_gtI, c_geI, b_addI, b_subI, b_mulI, b_fdivI, b_modI, b_addL, b_addT, b_addS, b_mulL, sl_L, sl_T, bi_lenT, bi_lenL, bi_lenS, bi_absI, bi_intI, bi_listT, bi_listL, bi_listS, bi_tupT, bi_tupL, idx_T, idx_L, atq_0, atq_1, atq_2, atq_3, ixq_0, ixq_1, ixq_2,
    Nat.reduceSub, Nat.reduceAdd, Nat.reduceEqDiff, Int.reduceNeg, Int.reduceAdd, Int.reduceSub, Int.reduceMul, Int.reduceLT, Int.reduceLE, Option.some.injEq, Nat.reduceLeDiff, Nat.zero_add, List.isEmpty_cons, List.isEmpty_nil,
    if_true, if_false, ite_true, ite_false, ↓reduceIte, decide_eq_true_eq, beq_iff_eq, bne_iff_ne, ne_eq, Bool.not_eq_true', Bool.not_eq_eq_eq_not, Bool.and_true, Bool.true_and, Bool.false_and, Bool.not_true, Bool.not_false, Bool.false_eq_true, reduceCtorEq, and_true, true_and, and_self, bltg, isiq,
    f_is_number, f_nexts_of, f_walk, f_lower, f_hopes, f_follows, f_nested, f_law_pool, f_law_draw, f_law_pick, f_law_shuffled, f_law_same, f_law_fraction, f_law_chance, f_law_tree, f_law_nodes, f_law_plan, f_law_names, f_law_bare, f_law_ends, f_law_with_tells, f_law_marks, f_law,
    sig_0, sig_1, sig_2, sig_3, sig_4, sig_5, sig_6, sig_7, sig_8, sig_9, sig_10, sig_11, sig_12, sig_13, sig_14, sig_15, sig_16, sig_17, sig_18, sig_19, sig_20, sig_21, sig_22])
  | `(tactic| exists $es:term,*) => `(tactic| simp only [WO_some, WO_none, ↓WO_map, ↓WO_bind, WO_iteN, ↓W_ok, ↓W_bad, ↓W_lift, ↓W_bnd, W_iteBad, W_ite, ↓WS_nx, ↓WS_rt, ↓WS_bk, ↓WS_ct, ↓WS_bad, ↓WS_fin, WS_iteBad, WS_ite, W_ok, W_bad, W_lift, W_bnd,
    ↓w_z, w_pS, w_pN, ↓w_varV, ↓w_var, ↓w_cint, ↓w_cbl, ↓w_cnon, ↓w_cstr, ↓w_bin, ↓w_neg, ↓w_cmp, ↓w_chn, ↓w_not, ↓w_and, ↓w_or, ↓w_one, ↓w_ifx, ↓w_tup, ↓w_lst, ↓w_dic0, ↓w_subV, ↓w_subN, ↓w_slcV, ↓w_slcN, ↓w_call, ↓w_bi, ↓w_bi2, ↓w_isi, ↓w_comp, ↓w_anyA, ↓w_pop0, ↓w_pop1, ↓w_index, ↓w_lrng, ↓w_rng1, ↓w_rng2, ↓w_rng3, ↓w_enm, ↓w_zip, ↓w_iV, ↓w_i_sub, ↓w_i_slc, ↓w_i_call, ↓w_i_tup, ↓w_i_comp,
    w_evs0, w_evs, w_evz0, w_evz, w_evc0, w_evc, ↓w_evo0, w_evo0, w_evo, ↓w_tV, ↓w_tcbl, ↓w_tnot, ↓w_tand, ↓w_tor, ↓w_tone, ↓w_t_cmp, ↓w_t_chn, ↓w_t_call, ↓w_t_sub, ↓w_t_isi, ↓w_t_bi, ↓w_t_bin, w_evts0, w_evts,
    s_nil, s_cons, o_none, o_some, ca_none, ca_some, pm_nil, pm_none, pl_nil, pl_cons, gb_none, gb_some, ↓w_has, isL_some, ↓w_hasL, ↓x_asg, ↓x_asgT, ↓x_par, ↓x_aug, setD_L, ↓x_setx, appD_L, ↓x_app, ↓x_expr, ↓x_ret, ↓x_retN, ↓x_ite, ↓x_whl, ↓x_for, ↓x_brk, ↓x_cnt, ↓x_pass, ↓WS_nil, ↓WS_cons, ↓WS_fF, ↓W_cF,
    bt_nm, bt_tp, pu_nil, pu_cons, pk_z, pk_s, pt_z, pt_s, oz_nil, oz_cons, zq_none, zq_some, wp_nil, wp_cons, bk_nil, bk_cons, fe_none, fe_0, fe_1, jn_some, mv_L, mv_D, mv_non, mv_bl, mv_int, mv_str, mv_tup, mv_F, mv_scr, mv_z,
    q_End_end, q_End_look, q_End_block, q_End_draw, q_End_tell, q_End_choose, q_Look_end, q_Look_look, q_Look_block, q_Look_draw, q_Look_tell, q_Look_choose, q_Block_end, q_Block_look, q_Block_block, q_Block_draw, q_Block_tell, q_Block_choose, q_Draw_end, q_Draw_look, q_Draw_block, q_Draw_draw, q_Draw_tell, q_Draw_choose, q_Tell_end, q_Tell_look, q_Tell_block, q_Tell_draw, q_Tell_tell, q_Tell_choose, cut_2, cut_t2, cut_t3,
    slot_var, slot_bad, slot_cint, slot_cbl, slot_cnon, slot_cstr, slot_bin, slot_neg, slot_cmp, slot_chn, slot_not, slot_and, slot_or, slot_ifx, slot_one, slot_tup, slot_lst, slot_sub, slot_slc, slot_call, slot_bi, slot_bi2, slot_isi, slot_comp, slot_lrng, slot_pop0, slot_pop1, slot_index, simple_var, simple_cint, simple_cbl, simple_cnon, simple_cstr, simple_bin, simple_neg, simple_sub, simple_slc, simple_call, simple_bi, simple_bi2, simple_isi, simple_lst, simple_tup, simple_comp, popD, popI, augop, iteq, itemsq, itemsp, List.getElem?_cons_zero, List.getElem?_cons_succ, List.set_cons_zero, List.set_cons_succ, List.replicate_succ, List.replicate_zero, List.map_cons, List.map_nil, List.cons_append, List.nil_append, List.length_cons, List.length_nil,
    Option.bind_some, Option.bind_none, Option.map_some, Option.map_none, Option.join_some, Option.toList_some, Option.toList_none, id_eq,
    frz_non, frz_bl, frz_int, frz_str, frz_tup, frz_lst, frz_dic, frz_scr, isZ_non, isZ_bl, isZ_int, isZ_str, isZ_tup, isZ_lstT, isZ_lstF, isZ_scr, tru_non, tru_bl, tru_int, tru_tup, tru_lst, asInt_int,
    c_eqI, c_neI, c_eqS, c_eqT, c_ltI, c_leI, c_gtI, c_geI, b_addI, b_subI, b_mulI, b_fdivI, b_modI, b_addL, b_addT, b_addS, b_mulL, sl_L, sl_T, bi_lenT, bi_lenL, bi_lenS, bi_absI, bi_intI, bi_listT, bi_listL, bi_listS, bi_tupT, bi_tupL, idx_T, idx_L, atq_0, atq_1, atq_2, atq_3, ixq_0, ixq_1, ixq_2,
    Nat.reduceSub, Nat.reduceAdd, Nat.reduceEqDiff, Int.reduceNeg, Int.reduceAdd, Int.reduceSub, Int.reduceMul, Int.reduceLT, Int.reduceLE, Option.some.injEq, Nat.reduceLeDiff, Nat.zero_add, List.isEmpty_cons, List.isEmpty_nil,
    if_true, if_false, ite_true, ite_false, ↓reduceIte, decide_eq_true_eq, beq_iff_eq, bne_iff_ne, ne_eq, Bool.not_eq_true', Bool.not_eq_eq_eq_not, Bool.and_true, Bool.true_and, Bool.false_and, Bool.not_true, Bool.not_false, Bool.false_eq_true, reduceCtorEq, and_true, true_and, and_self, bltg, isiq,
    f_is_number, f_nexts_of, f_walk, f_lower, f_hopes, f_follows, f_nested, f_law_pool, f_law_draw, f_law_pick, f_law_shuffled, f_law_same, f_law_fraction, f_law_chance, f_law_tree, f_law_nodes, f_law_plan, f_law_names, f_law_bare, f_law_ends, f_law_with_tells, f_law_marks, f_law,
    sig_0, sig_1, sig_2, sig_3, sig_4, sig_5, sig_6, sig_7, sig_8, sig_9, sig_10, sig_11, sig_12, sig_13, sig_14, sig_15, sig_16, sig_17, sig_18, sig_19, sig_20, sig_21, sig_22, $[$es:term],*])
section
variable {α : Type} (f : TT → α)
mutual
def preL : TT → List α
  | .fin => [f .fin]
  | .tell c => f (.tell c) :: preL c
  | .nd h cs => f (.nd h cs) :: preLs cs
def preLs : List TT → List α
  | [] => []
  | c :: cs => preL c ++ preLs cs
end
mutual
theorem preL_len : ∀ U : TT, (preL f U).length = sz U
  | .fin => rfl
  | .tell c => by rw [preL, List.length_cons, preL_len c, sz]; omega
  | .nd h cs => by rw [preL, List.length_cons, preLs_len cs, sz]; omega
theorem preLs_len : ∀ cs : List TT, (preLs f cs).length = szs cs
  | [] => rfl
  | c :: cs => by rw [preLs, List.length_append, preL_len c, preLs_len cs, szs]
end
theorem preLs_app : ∀ cs ds : List TT, preLs f (cs ++ ds) = preLs f cs ++ preLs f ds
  | [], ds => rfl
  | c :: cs, ds => by simp only [List.cons_append, preLs, preLs_app cs ds, List.append_assoc]
end
/-- the subtree that has the number a -/
inductive At (U : TT) : TT → Nat → Prop
  | root : At U U 0
  | tell {c a} : At U (.tell c) a → At U c (a + 1)
  | nd {h done c rest a} : At U (.nd h (done ++ c :: rest)) a → At U c (a + 1 + szs done)
theorem at_pre {α : Type} (f : TT → α) {U c : TT} {a : Nat} (h : At U c a) : ∃ xs ys, preL f U = xs ++ preL f c ++ ys ∧ xs.length = a := by
  induction h with
  | root => exact ⟨[], [], by simp, rfl⟩
  | @tell c a _ ih =>
    obtain ⟨xs, ys, h1, h2⟩ := ih
    exact ⟨xs ++ [f (.tell c)], ys, by rw [h1, preL]; simp, by rw [List.length_append, h2]; rfl⟩
  | @nd h done c rest a _ ih =>
    obtain ⟨xs, ys, h1, h2⟩ := ih
    refine ⟨xs ++ f (.nd h (done ++ c :: rest)) :: preLs f done, preLs f rest ++ ys, by rw [h1, preL, preLs_app, preLs]; simp, ?_⟩
    rw [List.length_append, List.length_cons, preLs_len, h2]; omega
theorem preL_hd {α : Type} (f : TT → α) (c : TT) : ∃ ys, preL f c = f c :: ys := by
  cases c <;> exact ⟨_, rfl⟩
theorem at_get {α : Type} (f : TT → α) {U c : TT} {a : Nat} (h : At U c a) : (preL f U)[a]? = some (f c) := by
  obtain ⟨xs, ys, h1, h2⟩ := at_pre f h
  obtain ⟨zs, e⟩ := preL_hd f c
  rw [h1, e, List.append_assoc, List.getElem?_append_right (by omega), h2, Nat.sub_self]
  rfl
theorem at_seg {U c : TT} {a : Nat} (h : At U c a) : Seg (lay U 0) c a := by
  induction h with
  | root => exact ⟨[], [], by simp, rfl⟩
  | tell _ ih => exact seg_tell ih
  | @nd h done c rest a _ ih =>
    obtain ⟨xs, ys, h1, h2⟩ := ih
    refine ⟨xs ++ cell (.nd h (done ++ c :: rest)) a :: lays done (a + 1), lays rest (a + 1 + szs done + sz c) ++ ys, by rw [h1, lay, lays_app, lays]; simp [cell], ?_⟩
    rw [List.length_append, List.length_cons, lays_len, h2]; omega
theorem at_df {U c : TT} {a n : Nat} (h : At U c a) (hd : df n U) : ∃ d, df d c := by
  induction h with
  | root => exact ⟨n, hd⟩
  | tell _ ih =>
    obtain ⟨d, h⟩ := ih
    cases d with
    | zero => exact h.elim
    | succ d => exact ⟨d, h⟩
  | @nd h done c rest a _ ih =>
    obtain ⟨d, h⟩ := ih
    cases d with
    | zero => exact h.elim
    | succ d => exact ⟨d, df_at (cs := done) h.2⟩
mutual
theorem at_all (U : TT) : ∀ (c : TT) (a i : Nat), At U c a → a ≤ i → i < a + sz c → ∃ c', At U c' i
  | .fin, a, i, h, h1, h2 => ⟨.fin, by rw [sz] at h2; rw [show i = a by omega]; exact h⟩
  | .tell c, a, i, h, h1, h2 => by
    by_cases e : i = a
    · exact ⟨_, e ▸ h⟩
    · rw [sz] at h2
      exact at_all U c (a + 1) i (.tell h) (by omega) (by omega)
  | .nd hd cs, a, i, h, h1, h2 => by
    by_cases e : i = a
    · exact ⟨_, e ▸ h⟩
    · rw [sz] at h2
      exact at_alls U cs [] hd a i h (by simp only [szs]; omega) (by simp only [szs]; omega)
theorem at_alls (U : TT) : ∀ (cs done : List TT) (hd : Hd) (a i : Nat), At U (.nd hd (done ++ cs)) a → a + 1 + szs done ≤ i → i < a + 1 + szs done + szs cs → ∃ c', At U c' i
  | [], done, hd, a, i, h, h1, h2 => by rw [szs] at h2; omega
  | c :: cs, done, hd, a, i, h, h1, h2 => by
    rw [szs] at h2
    by_cases e : i < a + 1 + szs done + sz c
    · exact at_all U c _ i (.nd h) h1 e
    · exact at_alls U cs (done ++ [c]) hd a i (by rw [List.append_assoc]; exact h) (by rw [szs_app]; simp only [szs]; omega) (by rw [szs_app]; simp only [szs]; omega)
end
def may (c : TT) : Bool := (told c).any id
def sure (c : TT) : Bool := (told c).all id
theorem may_nd (h : Hd) (cs : List TT) : may (.nd h cs) = (cs.map may).any id := by
  unfold may
  rw [told]
  induction cs with
  | nil => rfl
  | cons c cs ih => rw [tolds, List.any_append, List.map_cons, List.any_cons, ih]; rfl
theorem sure_nd (h : Hd) (cs : List TT) : sure (.nd h cs) = (cs.map sure).all id := by
  unfold sure
  rw [told]
  induction cs with
  | nil => rfl
  | cons c cs ih => rw [tolds, List.all_append, List.map_cons, List.all_cons, ih]; rfl
theorem picks_nums {g : TT → Bool} {ys : List D} : ∀ (cs : List TT) (b : Nat), b + szs cs < 2 ^ 40 → (∀ (done : List TT) (c : TT) (rest : List TT), cs = done ++ c :: rest → ys[b + szs done]? = some (.bl (g c))) → picks ys (nums cs b) = some (cs.map g)
  | [], b, _, _ => rfl
  | c :: cs, b, hb, h => by
    rw [szs] at hb
    have h0 := h [] c cs rfl
    rw [szs, Nat.add_zero] at h0
    have ih := picks_nums cs (b + sz c) (by omega) fun done c' rest e => by
      have := h (c :: done) c' rest (by rw [e]; rfl)
      rwa [szs, ← Nat.add_assoc] at this
    rw [nums, picks, if_pos (by constructor <;> omega)]
    simp only [Int.toNat_natCast, h0, ih, Option.map_some, List.map_cons]
mutual
theorem nE_pos : ∀ (n : Nat) (U : TT), df n U → 0 < nE (bare U)
  | _, .fin, _ => by simp only [bare, nE]; omega
  | n + 1, .tell c, h => by rw [bare]; exact nE_pos n c h
  | n + 1, .nd hd [], h => by
    have := h.1
    cases hd <;> simp only [Hd.ok, List.length_nil] at this <;> omega
  | n + 1, .nd hd (c :: cs), h => by
    have := nE_pos n c h.2.1
    simp only [bare, bares, nE, nEs]; omega
end
theorem may_tell {n : Nat} {c : TT} (h : df n (.tell c)) : may (.tell c) = true := by
  have := nE_pos n _ h
  rw [bare] at this
  unfold may
  rw [told, List.any_eq_true]
  exact ⟨true, by rw [List.mem_replicate]; exact ⟨by omega, rfl⟩, rfl⟩
theorem sure_tell (c : TT) : sure (.tell c) = true := by
  unfold sure
  rw [told, List.all_eq_true]
  intro x hx
  rw [List.mem_replicate] at hx
  rw [hx.2]; rfl
end K84
end
section
set_option maxRecDepth 100000
set_option linter.all false
namespace K84
open Sf
local macro_rules
  | `(tactic| trivial) => `(tactic| simp only [WO_some, WO_none, ↓WO_map, ↓WO_bind, WO_iteN, ↓W_ok, ↓W_bad, ↓W_lift, ↓W_bnd, W_iteBad, W_ite, ↓WS_nx, ↓WS_rt, ↓WS_bk, ↓WS_ct, ↓WS_bad, ↓WS_fin, WS_iteBad, WS_ite, W_ok, W_bad, W_lift, W_bnd,
    ↓w_z, w_pS, w_pN, ↓w_varV, ↓w_var, ↓w_cint, ↓w_cbl, ↓w_cnon, ↓w_cstr, ↓w_bin, ↓w_neg, ↓w_cmp, ↓w_chn, ↓w_not, ↓w_and, ↓w_or, ↓w_one, ↓w_ifx, ↓w_tup, ↓w_lst, ↓w_dic0, ↓w_subV, ↓w_subN, ↓w_slcV, ↓w_slcN, ↓w_call, ↓w_bi, ↓w_bi2, ↓w_isi, ↓w_comp, ↓w_anyA, ↓w_pop0, ↓w_pop1, ↓w_index, ↓w_lrng, ↓w_rng1, ↓w_rng2, ↓w_rng3, ↓w_enm, ↓w_zip, ↓w_iV, ↓w_i_sub, ↓w_i_slc, ↓w_i_call, ↓w_i_tup, ↓w_i_comp,
    w_evs0, w_evs, w_evz0, w_evz, w_evc0, w_evc, ↓w_evo0, w_evo0, w_evo, ↓w_tV, ↓w_tcbl, ↓w_tnot, ↓w_tand, ↓w_tor, ↓w_tone, ↓w_t_cmp, ↓w_t_chn, ↓w_t_call, ↓w_t_sub, ↓w_t_isi, ↓w_t_bi, ↓w_t_bin, w_evts0, w_evts,
    s_nil, s_cons, o_none, o_some, ca_none, ca_some, pm_nil, pm_none, pl_nil, pl_cons, gb_none, gb_some, ↓w_has, isL_some, ↓w_hasL, ↓x_asg, ↓x_asgT, ↓x_par, ↓x_aug, setD_L, ↓x_setx, appD_L, ↓x_app, ↓x_expr, ↓x_ret, ↓x_retN, ↓x_ite, ↓x_whl, ↓x_for, ↓x_brk, ↓x_cnt, ↓x_pass, ↓WS_nil, ↓WS_cons, ↓WS_fF, ↓W_cF,
    bt_nm, bt_tp, pu_nil, pu_cons, pk_z, pk_s, pt_z, pt_s, oz_nil, oz_cons, zq_none, zq_some, wp_nil, wp_cons, bk_nil, bk_cons, fe_none, fe_0, fe_1, jn_some, mv_L, mv_D, mv_non, mv_bl, mv_int, mv_str, mv_tup, mv_F, mv_scr, mv_z,
    q_End_end, q_End_look, q_End_block, q_End_draw, q_End_tell, q_End_choose, q_Look_end, q_Look_look, q_Look_block, q_Look_draw, q_Look_tell, q_Look_choose, q_Block_end, q_Block_look, q_Block_block, q_Block_draw, q_Block_tell, q_Block_choose, q_Draw_end, q_Draw_look, q_Draw_block, q_Draw_draw, q_Draw_tell, q_Draw_choose, q_Tell_end, q_Tell_look, q_Tell_block, q_Tell_draw, q_Tell_tell, q_Tell_choose, cut_2, cut_t2, cut_t3,
    slot_var, slot_bad, slot_cint, slot_cbl, slot_cnon, slot_cstr, slot_bin, slot_neg, slot_cmp, slot_chn, slot_not, slot_and, slot_or, slot_ifx, slot_one, slot_tup, slot_lst, slot_sub, slot_slc, slot_call, slot_bi, slot_bi2, slot_isi, slot_comp, slot_lrng, slot_pop0, slot_pop1, slot_index, simple_var, simple_cint, simple_cbl, simple_cnon, simple_cstr, simple_bin, simple_neg, simple_sub, simple_slc, simple_call, simple_bi, simple_bi2, simple_isi, simple_lst, simple_tup, simple_comp, popD, popI, augop, iteq, itemsq, itemsp, List.getElem?_cons_zero, List.getElem?_cons_succ, List.set_cons_zero, List.set_cons_succ, List.replicate_succ, List.replicate_zero, List.map_cons, List.map_nil, List.cons_append, List.nil_append, List.length_cons, List.length_nil,
    Option.bind_some, Option.bind_none, Option.map_some, Option.map_none, Option.join_some, Option.toList_some, Option.toList_none, id_eq,
    frz_non, frz_bl, frz_int, frz_str, frz_tup, frz_lst, frz_dic, frz_scr, isZ_non, isZ_bl, isZ_int, isZ_str, isZ_tup, isZ_lstT, isZ_lstF, isZ_scr, tru_non, tru_bl, tru_int, tru_tup, tru_lst, asInt_int,
    c_eqI, c_neI, c_eqS, c_eqT, c_ltI, c_leI, c_gtI, c_geI, b_addI, b_subI, b_mulI, b_fdivI, b_modI, b_addL, b_addT, b_addS, b_mulL, sl_L, sl_T, bi_lenT, bi_lenL, bi_lenS, bi_absI, bi_intI, bi_listT, bi_listL, bi_listS, bi_tupT, bi_tupL, idx_T, idx_L, atq_0, atq_1, atq_2, atq_3, ixq_0, ixq_1, ixq_2,
    Nat.reduceSub, Nat.reduceAdd, Nat.reduceEqDiff, Int.reduceNeg, Int.reduceAdd, Int.reduceSub, Int.reduceMul, Int.reduceLT, Int.reduceLE, Option.some.injEq, Nat.reduceLeDiff, Nat.zero_add, List.isEmpty_cons, List.isEmpty_nil,
    if_true, if_false, ite_true, ite_false, ↓reduceIte, decide_eq_true_eq, beq_iff_eq, bne_iff_ne, ne_eq, Bool.not_eq_true', Bool.not_eq_eq_eq_not, Bool.and_true, Bool.true_and, Bool.false_and, Bool.not_true, Bool.not_false, Bool.false_eq_true, reduceCtorEq, and_true, true_and, and_self, bltg, isiq,
    f_is_number, f_nexts_of, f_walk, f_lower, f_hopes, f_follows, f_nested, f_law_pool, f_law_draw, f_law_pick, f_law_shuffled, f_law_same, f_law_fraction, f_law_chance, f_law_tree, f_law_nodes, f_law_plan, f_law_names, f_law_bare, f_law_ends, f_law_with_tells, f_law_marks, f_law,
    sig_0, sig_1, sig_2, sig_3, sig_4, sig_5, sig_6, sig_7, sig_8, sig_9, sig_10, sig_11, sig_12, sig_13, sig_14, sig_15, sig_16, sig_17, sig_18, sig_19, sig_20, sig_21, sig_22])
  | `(tactic| exists $es:term,*) => `(tactic| simp only [WO_some, WO_none, ↓WO_map, ↓WO_bind, WO_iteN, ↓W_ok, ↓W_bad, ↓W_lift, ↓W_bnd, W_iteBad, W_ite, ↓WS_nx, ↓WS_rt, ↓WS_bk, ↓WS_ct, ↓WS_bad, ↓WS_fin, WS_iteBad, WS_ite, W_ok, W_bad, W_lift, W_bnd,
    ↓w_z, w_pS, w_pN, ↓w_varV, ↓w_var, ↓w_cint, ↓w_cbl, ↓w_cnon, ↓w_cstr, ↓w_bin, ↓w_neg, ↓w_cmp, ↓w_chn, ↓w_not, ↓w_and, ↓w_or, ↓w_one, ↓w_ifx, ↓w_tup, ↓w_lst, ↓w_dic0, ↓w_subV, ↓w_subN, ↓w_slcV, ↓w_slcN, ↓w_call, ↓w_bi, ↓w_bi2, ↓w_isi, ↓w_comp, ↓w_anyA, ↓w_pop0, ↓w_pop1, ↓w_index, ↓w_lrng, ↓w_rng1, ↓w_rng2, ↓w_rng3, ↓w_enm, ↓w_zip, ↓w_iV, ↓w_i_sub, ↓w_i_slc, ↓w_i_call, ↓w_i_tup, ↓w_i_comp,
    w_evs0, w_evs, w_evz0, w_evz, w_evc0, w_evc, ↓w_evo0, w_evo0, w_evo, ↓w_tV, ↓w_tcbl, ↓w_tnot, ↓w_tand, ↓w_tor, ↓w_tone, ↓w_t_cmp, ↓w_t_chn, ↓w_t_call, ↓w_t_sub, ↓w_t_isi, ↓w_t_bi, ↓w_t_bin, w_evts0, w_evts,
    s_nil, s_cons, o_none, o_some, ca_none, ca_some, pm_nil, pm_none, pl_nil, pl_cons, gb_none, gb_some, ↓w_has, isL_some, ↓w_hasL, ↓x_asg, ↓x_asgT, ↓x_par, ↓x_aug, setD_L, ↓x_setx, appD_L, ↓x_app, ↓x_expr, ↓x_ret, ↓x_retN, ↓x_ite, ↓x_whl, ↓x_for, ↓x_brk, ↓x_cnt, ↓x_pass, ↓WS_nil, ↓WS_cons, ↓WS_fF, ↓W_cF,
    bt_nm, bt_tp, pu_nil, pu_cons, pk_z, pk_s, pt_z, pt_s, oz_nil, oz_cons, zq_none, zq_some, wp_nil, wp_cons, bk_nil, bk_cons, fe_none, fe_0, fe_1, jn_some, mv_L, mv_D, mv_non, mv_bl, mv_int, mv_str, mv_tup, mv_F, mv_scr, mv_z,
    q_End_end, q_End_look, q_End_block, q_End_draw, q_End_tell, q_End_choose, q_Look_end, q_Look_look, q_Look_block, q_Look_draw, q_Look_tell, q_Look_choose, q_Block_end, q_Block_look, q_Block_block, q_Block_draw, q_Block_tell, q_Block_choose, q_Draw_end, q_Draw_look, q_Draw_block, q_Draw_draw, q_Draw_tell, q_Draw_choose, q_Tell_end, q_Tell_look, q_Tell_block, q_Tell_draw, q_Tell_tell, q_Tell_choose, cut_2, cut_t2, cut_t3,
    slot_var, slot_bad, slot_cint, slot_cbl, slot_cnon, slot_cstr, slot_bin, slot_neg, slot_cmp, slot_chn, slot_not, slot_and, slot_or, slot_ifx, slot_one, slot_tup, slot_lst, slot_sub, slot_slc, slot_call, slot_bi, slot_bi2, slot_isi, slot_comp, slot_lrng, slot_pop0, slot_pop1, slot_index, simple_var, simple_cint, simple_cbl, simple_cnon, simple_cstr, simple_bin, simple_neg, simple_sub, simple_slc, simple_call, simple_bi, simple_bi2, simple_isi, simple_lst, simple_tup, simple_comp, popD, popI, augop, iteq, itemsq, itemsp, List.getElem?_cons_zero, List.getElem?_cons_succ, List.set_cons_zero, List.set_cons_succ, List.replicate_succ, List.replicate_zero, List.map_cons, List.map_nil, List.cons_append, List.nil_append, List.length_cons, List.length_nil,
    Option.bind_some, Option.bind_none, Option.map_some, Option.map_none, Option.join_some, Option.toList_some, Option.toList_none, id_eq,
    frz_non, frz_bl, frz_int, frz_str, frz_tup, frz_lst, frz_dic, frz_scr, isZ_non, isZ_bl, isZ_int, isZ_str, isZ_tup, isZ_lstT, isZ_lstF, isZ_scr, tru_non, tru_bl, tru_int, tru_tup, tru_lst, asInt_int,
    c_eqI, c_neI, c_eqS, c_eqT, c_ltI, c_leI, c_gtI, c_geI, b_addI, b_subI, b_mulI, b_fdivI, b_modI, b_addL, b_addT, b_addS, b_mulL, sl_L, sl_T, bi_lenT, bi_lenL, bi_lenS, bi_absI, bi_intI, bi_listT, bi_listL, bi_listS, bi_tupT, bi_tupL, idx_T, idx_L, atq_0, atq_1, atq_2, atq_3, ixq_0, ixq_1, ixq_2,
    Nat.reduceSub, Nat.reduceAdd, Nat.reduceEqDiff, Int.reduceNeg, Int.reduceAdd, Int.reduceSub, Int.reduceMul, Int.reduceLT, Int.reduceLE, Option.some.injEq, Nat.reduceLeDiff, Nat.zero_add, List.isEmpty_cons, List.isEmpty_nil,
    if_true, if_false, ite_true, ite_false, ↓reduceIte, decide_eq_true_eq, beq_iff_eq, bne_iff_ne, ne_eq, Bool.not_eq_true', Bool.not_eq_eq_eq_not, Bool.and_true, Bool.true_and, Bool.false_and, Bool.not_true, Bool.not_false, Bool.false_eq_true, reduceCtorEq, and_true, true_and, and_self, bltg, isiq,
    f_is_number, f_nexts_of, f_walk, f_lower, f_hopes, f_follows, f_nested, f_law_pool, f_law_draw, f_law_pick, f_law_shuffled, f_law_same, f_law_fraction, f_law_chance, f_law_tree, f_law_nodes, f_law_plan, f_law_names, f_law_bare, f_law_ends, f_law_with_tells, f_law_marks, f_law,
    sig_0, sig_1, sig_2, sig_3, sig_4, sig_5, sig_6, sig_7, sig_8, sig_9, sig_10, sig_11, sig_12, sig_13, sig_14, sig_15, sig_16, sig_17, sig_18, sig_19, sig_20, sig_21, sig_22, $[$es:term],*])
theorem lay_get {U c : TT} {a : Nat} (h : At U c a) : (lay U 0)[a]? = some (cell c a) := seg_at (at_seg h)
/-- the last ones from m on are right -/
def bk (M : List Bool) (m : Nat) : List D := (List.replicate m false ++ M.drop m).map .bl
theorem bk_len {M : List Bool} {m : Nat} (h : m ≤ M.length) : (bk M m).length = M.length := by
  unfold bk; rw [List.length_map, List.length_append, List.length_replicate, List.length_drop]; omega
theorem bk_get {M : List Bool} {m i : Nat} {b : Bool} (h : m ≤ i) (h2 : M[i]? = some b) : (bk M m)[i]? = some (.bl b) := by
  unfold bk
  rw [List.getElem?_map, List.getElem?_append_right (by rw [List.length_replicate]; exact h), List.length_replicate, List.getElem?_drop, show m + (i - m) = i by omega, h2]; rfl
theorem bk_set {M : List Bool} {m : Nat} {b : Bool} (h2 : M[m]? = some b) : (bk M (m + 1)).set m (.bl b) = bk M m := by
  unfold bk
  have hl := (List.getElem?_eq_some_iff.mp h2).1
  have hb : M[m] = b := (List.getElem?_eq_some_iff.mp h2).2
  rw [← List.map_set, List.replicate_succ', List.append_assoc]
  have := List.drop_eq_getElem_cons hl
  rw [this, hb]
  congr 1
  have hx : (List.replicate m false ++ ([false] ++ M.drop (m + 1))).set (List.replicate m false).length b = List.replicate m false ++ b :: M.drop (m + 1) := by
    generalize List.replicate m false = xs
    induction xs with
    | nil => rfl
    | cons x xs ih => simp only [List.cons_append, List.length_cons, List.set_cons_succ]; rw [← ih]; rfl
  rw [List.length_replicate] at hx
  exact hx
theorem bk_skip {M : List Bool} {m : Nat} (h2 : M[m]? = some false) : bk M (m + 1) = bk M m := by
  unfold bk
  have hl := (List.getElem?_eq_some_iff.mp h2).1
  have hb : M[m] = false := (List.getElem?_eq_some_iff.mp h2).2
  rw [List.replicate_succ', List.append_assoc, List.drop_eq_getElem_cons hl, hb]; rfl
theorem rngq_down (m : Nat) : rngq ((m : Int) + 1 - 1) (-1) (m + 1) = .int m :: rngq ((m : Int) - 1) (-1) m := by
  unfold rngq
  rw [List.range_succ_eq_map, List.map_cons, List.map_map]
  congr 1
  · congr 1; simp
  · refine List.map_congr_left fun k _ => ?_
    show D.int ((m : Int) + 1 - 1 + ((k + 1 : Nat) : Int) * (-1)) = D.int ((m : Int) - 1 + (k : Int) * (-1))
    congr 1
    omega
theorem rng3_len {n : Nat} (h : n < 1000000) : rng3q ((n : Int) - 1) (-1) (-1) = some (rngq ((n : Int) - 1) (-1) n) := by
  unfold rng3q small
  have h1 : -(2 ^ 40) < (n : Int) - 1 := by omega
  have h2 : (n : Int) - 1 < 2 ^ 40 := by omega
  have e3 : ((n : Int) - 1 - (-1)).toNat = n := by omega
  have e4 : n ≤ SZ := Nat.le_trans (Nat.le_of_lt h) (by decide)
  rw [e3, decide_eq_true h1, decide_eq_true h2, decide_eq_true e4]
  rfl
theorem mul_false (n : Nat) : (List.replicate n [D.bl false]).flatten = List.replicate n (.bl false) := by
  induction n with
  | zero => rfl
  | succ n ih => rw [List.replicate_succ, List.flatten_cons, ih, List.replicate_succ]; rfl
theorem w_hopes {k n : Nat} {U : TT} {Q : D → Env → Prop} {X : XC} {t} (hd : df n U) (hs : sz U < 1000000) (hQ : Q (.tup [.lst false ((preL may U).map .bl), .lst false ((preL sure U).map .bl)]) [none]) : W (callN tab (k + 2) 4 [.tup (lay U 0)]) Q X t := by
  refine C4 ?_
  rw [hopes_is]
  have e1 : 1 ≤ SZ := by decide
  have e2 : 0 + 1 + 1 ≤ SZ := by decide
  have eS : 1000000 < SZ := by decide
  have hln : (lay U 0).length = sz U := lay_len U 0
  have e3 : (sz U : Int) < 2 ^ 40 := by omega
  have e4 : -(2 ^ 40 : Int) < (sz U : Int) := by omega
  have e5 : 1 * sz U ≤ SZ := by omega
  have e6 := rng3_len hs
  have e7 : 0 + 1 ≤ SZ := by decide
  have hM : (preL may U).length = sz U := preL_len may U
  have hS : (preL sure U).length = sz U := preL_len sure U
  have hi0 : ∀ M : List Bool, M.length = sz U → List.replicate (sz U) (D.bl false) = bk M (sz U) := by
    intro M hM
    unfold bk
    rw [List.drop_of_length_le (by omega), List.append_nil, List.map_replicate]
  unfold hopes_0 hopes_1 hopes_2 hopes_3
  exists e7, hln, e3, e4, e5, e6, Int.toNat_natCast, mul_false
  refine forW (fun xs r => ∃ (m : Nat) (q q2 : Option D), m ≤ sz U ∧ xs = rngq ((m : Int) - 1) (-1) m ∧ r = [some (.tup (lay U 0)), some (.lst true (bk (preL may U) m)), some (.lst true (bk (preL sure U) m)), q, q2, none]) ⟨sz U, none, none, Nat.le_refl _, rfl, by rw [← hi0 _ hM, ← hi0 _ hS]⟩ ?_ ?_
  · rintro x xs r ⟨m, q, q2, h1, h2, rfl⟩
    cases m with
    | zero => cases h2
    | succ m =>
      rw [show (((m + 1 : Nat) : Int) - 1) = (m : Int) + 1 - 1 by omega, rngq_down] at h2
      obtain ⟨rfl, rfl⟩ := List.cons.inj h2
      obtain ⟨c, hc⟩ := at_all U U 0 m .root (by omega) (by omega)
      obtain ⟨d, hcd⟩ := at_df hc hd
      have f1 : atq (lay U 0) (m : Int) = some (cell c m) := by rw [atq_nat]; exact lay_get hc
      have g1 := at_get may hc
      have g2 := at_get sure hc
      exists f1, frz_cell, cell_isZ
      refine w_nexts hcd ?_
      have f2 : ixq (bk (preL may U) (m + 1)).length (m : Int) = some m := by rw [bk_len (by omega)]; exact ixq_nat (by omega)
      have f3 : ixq (bk (preL sure U) (m + 1)).length (m : Int) = some m := by rw [bk_len (by omega)]; exact ixq_nat (by omega)
      have hnx : ∀ q q2, ∃ (m' : Nat) (q' q2' : Option D), m' ≤ sz U ∧ rngq ((m : Int) - 1) (-1) m = rngq ((m' : Int) - 1) (-1) m' ∧ [some (D.tup (lay U 0)), some (.lst true (bk (preL may U) m)), some (.lst true (bk (preL sure U) m)), q, q2, none] = [some (D.tup (lay U 0)), some (.lst true (bk (preL may U) m')), some (.lst true (bk (preL sure U) m')), q', q2', none] := fun q q2 => ⟨m, q, q2, by omega, rfl, rfl⟩
      cases c with
      | fin =>
        have f4 : idx (cell .fin m) (.int 0) = some (.str sEnd) := by simp only [cell, idx_T, atq_0]
        have f5 : chn .fin m = [] := rfl
        exists f1, frz_cell, cell_isZ, f4, f5
        rw [bk_skip g1, bk_skip g2]
        exact hnx _ _
      | tell c =>
        have f4 : idx (cell (.tell c) m) (.int 0) = some (.str sTell) := by simp only [cell, idx_T, atq_0]
        rw [may_tell hcd] at g1
        rw [sure_tell] at g2
        have f5 := bk_set g1
        have f6 := bk_set g2
        exists f1, frz_cell, cell_isZ, f4, f2, f3, f5, f6
        exact hnx _ _
      | nd h cs =>
        have f4 : ∃ x, idx (cell (.nd h cs) m) (.int 0) = some (.str x) ∧ (x = [116, 101, 108, 108]) = False := by
          cases h with
          | look x => exact ⟨sLook, by simp only [cell, Hd.node, idx_T, atq_0], q_Look_tell⟩
          | draw x y => exact ⟨sDraw, by simp only [cell, Hd.node, idx_T, atq_0], q_Draw_tell⟩
          | block x y => exact ⟨sBlock, by simp only [cell, Hd.node, idx_T, atq_0], q_Block_tell⟩
        obtain ⟨x, f4, f5⟩ := f4
        have hne : (chn (.nd h cs) m).isEmpty = false := by
          cases cs with
          | nil =>
            cases d with
            | zero => exact hcd.elim
            | succ d =>
              have := hcd.1
              cases h <;> simp only [Hd.ok, List.length_nil] at this <;> omega
          | cons c cs => rfl
        have hsz : m + 1 + szs cs ≤ sz U := by
          obtain ⟨xs, ys, h3, h4⟩ := at_pre may hc
          have := congrArg List.length h3
          rw [preL_len, List.length_append, List.length_append, preL_len, h4, sz] at this
          omega
        have p1 : picks (bk (preL may U) (m + 1)) (chn (.nd h cs) m) = some (cs.map may) := by
          refine picks_nums cs (m + 1) (by omega) fun done c rest e => ?_
          subst e
          exact bk_get (by omega) (at_get may (.nd hc))
        have p2 : picks (bk (preL sure U) (m + 1)) (chn (.nd h cs) m) = some (cs.map sure) := by
          refine picks_nums cs (m + 1) (by omega) fun done c rest e => ?_
          subst e
          exact bk_get (by omega) (at_get sure (.nd hc))
        rw [may_nd] at g1
        rw [sure_nd] at g2
        have f6 := bk_set g1
        have f7 := bk_set g2
        exists f1, frz_cell, cell_isZ, f4, f5, hne, pickB, p1, p2, f2, f3, f6, f7
        exact hnx _ _
  · rintro r ⟨m, q, q2, h1, h2, rfl⟩
    cases m with
    | succ m => rw [show (((m + 1 : Nat) : Int) - 1) = (m : Int) + 1 - 1 by omega, rngq_down] at h2; cases h2
    | zero =>
      exists e2
      have : ∀ M : List Bool, bk M 0 = M.map .bl := fun M => by unfold bk; simp
      rw [this, this]
      exact hQ
end K84
end
section
set_option maxRecDepth 100000
set_option linter.all false
namespace K84
open Sf
local macro_rules
  | `(tactic| trivial) => `(tactic| simp only [WO_some, WO_none, ↓WO_map, ↓WO_bind, WO_iteN, ↓W_ok, ↓W_bad, ↓W_lift, ↓W_bnd, W_iteBad, W_ite, ↓WS_nx, ↓WS_rt, ↓WS_bk, ↓WS_ct, ↓WS_bad, ↓WS_fin, WS_iteBad, WS_ite, W_ok, W_bad, W_lift, W_bnd,
    ↓w_z, w_pS, w_pN, ↓w_varV, ↓w_var, ↓w_cint, ↓w_cbl, ↓w_cnon, ↓w_cstr, ↓w_bin, ↓w_neg, ↓w_cmp, ↓w_chn, ↓w_not, ↓w_and, ↓w_or, ↓w_one, ↓w_ifx, ↓w_tup, ↓w_lst, ↓w_dic0, ↓w_subV, ↓w_subN, ↓w_slcV, ↓w_slcN, ↓w_call, ↓w_bi, ↓w_bi2, ↓w_isi, ↓w_comp, ↓w_anyA, ↓w_pop0, ↓w_pop1, ↓w_index, ↓w_lrng, ↓w_rng1, ↓w_rng2, ↓w_rng3, ↓w_enm, ↓w_zip, ↓w_iV, ↓w_i_sub, ↓w_i_slc, ↓w_i_call, ↓w_i_tup, ↓w_i_comp,
    w_evs0, w_evs, w_evz0, w_evz, w_evc0, w_evc, ↓w_evo0, w_evo0, w_evo, ↓w_tV, ↓w_tcbl, ↓w_tnot, ↓w_tand, ↓w_tor, ↓w_tone, ↓w_t_cmp, ↓w_t_chn, ↓w_t_call, ↓w_t_sub, ↓w_t_isi, ↓w_t_bi, ↓w_t_bin, w_evts0, w_evts,
    s_nil, s_cons, o_none, o_some, ca_none, ca_some, pm_nil, pm_none, pl_nil, pl_cons, gb_none, gb_some, ↓w_has, isL_some, ↓w_hasL, ↓x_asg, ↓x_asgT, ↓x_par, ↓x_aug, setD_L, ↓x_setx, appD_L, ↓x_app, ↓x_expr, ↓x_ret, ↓x_retN, ↓x_ite, ↓x_whl, ↓x_for, ↓x_brk, ↓x_cnt, ↓x_pass, ↓WS_nil, ↓WS_cons, ↓WS_fF, ↓W_cF,
    bt_nm, bt_tp, pu_nil, pu_cons, pk_z, pk_s, pt_z, pt_s, oz_nil, oz_cons, zq_none, zq_some, wp_nil, wp_cons, bk_nil, bk_cons, fe_none, fe_0, fe_1, jn_some, mv_L, mv_D, mv_non, mv_bl, mv_int, mv_str, mv_tup, mv_F, mv_scr, mv_z,
    q_End_end, q_End_look, q_End_block, q_End_draw, q_End_tell, q_End_choose, q_Look_end, q_Look_look, q_Look_block, q_Look_draw, q_Look_tell, q_Look_choose, q_Block_end, q_Block_look, q_Block_block, q_Block_draw, q_Block_tell, q_Block_choose, q_Draw_end, q_Draw_look, q_Draw_block, q_Draw_draw, q_Draw_tell, q_Draw_choose, q_Tell_end, q_Tell_look, q_Tell_block, q_Tell_draw, q_Tell_tell, q_Tell_choose, cut_2, cut_t2, cut_t3,
    slot_var, slot_bad, slot_cint, slot_cbl, slot_cnon, slot_cstr, slot_bin, slot_neg, slot_cmp, slot_chn, slot_not, slot_and, slot_or, slot_ifx, slot_one, slot_tup, slot_lst, slot_sub, slot_slc, slot_call, slot_bi, slot_bi2, slot_isi, slot_comp, slot_lrng, slot_pop0, slot_pop1, slot_index, simple_var, simple_cint, simple_cbl, simple_cnon, simple_cstr, simple_bin, simple_neg, simple_sub, simple_slc, simple_call, simple_bi, simple_bi2, simple_isi, simple_lst, simple_tup, simple_comp, popD, popI, augop, iteq, itemsq, itemsp, List.getElem?_cons_zero, List.getElem?_cons_succ, List.set_cons_zero, List.set_cons_succ, List.replicate_succ, List.replicate_zero, List.map_cons, List.map_nil, List.cons_append, List.nil_append, List.length_cons, List.length_nil,
    Option.bind_some, Option.bind_none, Option.map_some, Option.map_none, Option.join_some, Option.toList_some, Option.toList_none, id_eq,
    frz_non, frz_bl, frz_int, frz_str, frz_tup, frz_lst, frz_dic, frz_scr, isZ_non, isZ_bl, isZ_int, isZ_str, isZ_tup, isZ_lstT, isZ_lstF, isZ_scr, tru_non, tru_bl, tru_int, tru_tup, tru_lst, asInt_int,
    c_eqI, c_neI, c_eqS, c_eqT, c_ltI, c_leI, c_gtI, c_geI, b_addI, b_subI, b_mulI, b_fdivI, b_modI, b_addL, b_addT, b_addS, b_mulL, sl_L, sl_T, bi_lenT, bi_lenL, bi_lenS, bi_absI, bi_intI, bi_listT, bi_listL, bi_listS, bi_tupT, bi_tupL, idx_T, idx_L, atq_0, atq_1, atq_2, atq_3, ixq_0, ixq_1, ixq_2,
    Nat.reduceSub, Nat.reduceAdd, Nat.reduceEqDiff, Int.reduceNeg, Int.reduceAdd, Int.reduceSub, Int.reduceMul, Int.reduceLT, Int.reduceLE, Option.some.injEq, Nat.reduceLeDiff, Nat.zero_add, List.isEmpty_cons, List.isEmpty_nil,
    if_true, if_false, ite_true, ite_false, ↓reduceIte, decide_eq_true_eq, beq_iff_eq, bne_iff_ne, ne_eq, Bool.not_eq_true', Bool.not_eq_eq_eq_not, Bool.and_true, Bool.true_and, Bool.false_and, Bool.not_true, Bool.not_false, Bool.false_eq_true, reduceCtorEq, and_true, true_and, and_self, bltg, isiq,
    f_is_number, f_nexts_of, f_walk, f_lower, f_hopes, f_follows, f_nested, f_law_pool, f_law_draw, f_law_pick, f_law_shuffled, f_law_same, f_law_fraction, f_law_chance, f_law_tree, f_law_nodes, f_law_plan, f_law_names, f_law_bare, f_law_ends, f_law_with_tells, f_law_marks, f_law,
    sig_0, sig_1, sig_2, sig_3, sig_4, sig_5, sig_6, sig_7, sig_8, sig_9, sig_10, sig_11, sig_12, sig_13, sig_14, sig_15, sig_16, sig_17, sig_18, sig_19, sig_20, sig_21, sig_22])
  | `(tactic| exists $es:term,*) => `(tactic| simp only [WO_some, WO_none, ↓WO_map, ↓WO_bind, WO_iteN, ↓W_ok, ↓W_bad, ↓W_lift, ↓W_bnd, W_iteBad, W_ite, ↓WS_nx, ↓WS_rt, ↓WS_bk, ↓WS_ct, ↓WS_bad, ↓WS_fin, WS_iteBad, WS_ite, W_ok, W_bad, W_lift, W_bnd,
    ↓w_z, w_pS, w_pN, ↓w_varV, ↓w_var, ↓w_cint, ↓w_cbl, ↓w_cnon, ↓w_cstr, ↓w_bin, ↓w_neg, ↓w_cmp, ↓w_chn, ↓w_not, ↓w_and, ↓w_or, ↓w_one, ↓w_ifx, ↓w_tup, ↓w_lst, ↓w_dic0, ↓w_subV, ↓w_subN, ↓w_slcV, ↓w_slcN, ↓w_call, ↓w_bi, ↓w_bi2, ↓w_isi, ↓w_comp, ↓w_anyA, ↓w_pop0, ↓w_pop1, ↓w_index, ↓w_lrng, ↓w_rng1, ↓w_rng2, ↓w_rng3, ↓w_enm, ↓w_zip, ↓w_iV, ↓w_i_sub, ↓w_i_slc, ↓w_i_call, ↓w_i_tup, ↓w_i_comp,
    w_evs0, w_evs, w_evz0, w_evz, w_evc0, w_evc, ↓w_evo0, w_evo0, w_evo, ↓w_tV, ↓w_tcbl, ↓w_tnot, ↓w_tand, ↓w_tor, ↓w_tone, ↓w_t_cmp, ↓w_t_chn, ↓w_t_call, ↓w_t_sub, ↓w_t_isi, ↓w_t_bi, ↓w_t_bin, w_evts0, w_evts,
    s_nil, s_cons, o_none, o_some, ca_none, ca_some, pm_nil, pm_none, pl_nil, pl_cons, gb_none, gb_some, ↓w_has, isL_some, ↓w_hasL, ↓x_asg, ↓x_asgT, ↓x_par, ↓x_aug, setD_L, ↓x_setx, appD_L, ↓x_app, ↓x_expr, ↓x_ret, ↓x_retN, ↓x_ite, ↓x_whl, ↓x_for, ↓x_brk, ↓x_cnt, ↓x_pass, ↓WS_nil, ↓WS_cons, ↓WS_fF, ↓W_cF,
    bt_nm, bt_tp, pu_nil, pu_cons, pk_z, pk_s, pt_z, pt_s, oz_nil, oz_cons, zq_none, zq_some, wp_nil, wp_cons, bk_nil, bk_cons, fe_none, fe_0, fe_1, jn_some, mv_L, mv_D, mv_non, mv_bl, mv_int, mv_str, mv_tup, mv_F, mv_scr, mv_z,
    q_End_end, q_End_look, q_End_block, q_End_draw, q_End_tell, q_End_choose, q_Look_end, q_Look_look, q_Look_block, q_Look_draw, q_Look_tell, q_Look_choose, q_Block_end, q_Block_look, q_Block_block, q_Block_draw, q_Block_tell, q_Block_choose, q_Draw_end, q_Draw_look, q_Draw_block, q_Draw_draw, q_Draw_tell, q_Draw_choose, q_Tell_end, q_Tell_look, q_Tell_block, q_Tell_draw, q_Tell_tell, q_Tell_choose, cut_2, cut_t2, cut_t3,
    slot_var, slot_bad, slot_cint, slot_cbl, slot_cnon, slot_cstr, slot_bin, slot_neg, slot_cmp, slot_chn, slot_not, slot_and, slot_or, slot_ifx, slot_one, slot_tup, slot_lst, slot_sub, slot_slc, slot_call, slot_bi, slot_bi2, slot_isi, slot_comp, slot_lrng, slot_pop0, slot_pop1, slot_index, simple_var, simple_cint, simple_cbl, simple_cnon, simple_cstr, simple_bin, simple_neg, simple_sub, simple_slc, simple_call, simple_bi, simple_bi2, simple_isi, simple_lst, simple_tup, simple_comp, popD, popI, augop, iteq, itemsq, itemsp, List.getElem?_cons_zero, List.getElem?_cons_succ, List.set_cons_zero, List.set_cons_succ, List.replicate_succ, List.replicate_zero, List.map_cons, List.map_nil, List.cons_append, List.nil_append, List.length_cons, List.length_nil,
    Option.bind_some, Option.bind_none, Option.map_some, Option.map_none, Option.join_some, Option.toList_some, Option.toList_none, id_eq,
    frz_non, frz_bl, frz_int, frz_str, frz_tup, frz_lst, frz_dic, frz_scr, isZ_non, isZ_bl, isZ_int, isZ_str, isZ_tup, isZ_lstT, isZ_lstF, isZ_scr, tru_non, tru_bl, tru_int, tru_tup, tru_lst, asInt_int,
    c_eqI, c_neI, c_eqS, c_eqT, c_ltI, c_leI, c_gtI, c_geI, b_addI, b_subI, b_mulI, b_fdivI, b_modI, b_addL, b_addT, b_addS, b_mulL, sl_L, sl_T, bi_lenT, bi_lenL, bi_lenS, bi_absI, bi_intI, bi_listT, bi_listL, bi_listS, bi_tupT, bi_tupL, idx_T, idx_L, atq_0, atq_1, atq_2, atq_3, ixq_0, ixq_1, ixq_2,
    Nat.reduceSub, Nat.reduceAdd, Nat.reduceEqDiff, Int.reduceNeg, Int.reduceAdd, Int.reduceSub, Int.reduceMul, Int.reduceLT, Int.reduceLE, Option.some.injEq, Nat.reduceLeDiff, Nat.zero_add, List.isEmpty_cons, List.isEmpty_nil,
    if_true, if_false, ite_true, ite_false, ↓reduceIte, decide_eq_true_eq, beq_iff_eq, bne_iff_ne, ne_eq, Bool.not_eq_true', Bool.not_eq_eq_eq_not, Bool.and_true, Bool.true_and, Bool.false_and, Bool.not_true, Bool.not_false, Bool.false_eq_true, reduceCtorEq, and_true, true_and, and_self, bltg, isiq,
    f_is_number, f_nexts_of, f_walk, f_lower, f_hopes, f_follows, f_nested, f_law_pool, f_law_draw, f_law_pick, f_law_shuffled, f_law_same, f_law_fraction, f_law_chance, f_law_tree, f_law_nodes, f_law_plan, f_law_names, f_law_bare, f_law_ends, f_law_with_tells, f_law_marks, f_law,
    sig_0, sig_1, sig_2, sig_3, sig_4, sig_5, sig_6, sig_7, sig_8, sig_9, sig_10, sig_11, sig_12, sig_13, sig_14, sig_15, sig_16, sig_17, sig_18, sig_19, sig_20, sig_21, sig_22, $[$es:term],*])
inductive Pr (U V : TT) : TT → TT → Nat → Nat → Prop
  | root : Pr U V U V 0 0
  | nd {h h' done done' c c' rest rest' i j} : Pr U V (.nd h (done ++ c :: rest)) (.nd h' (done' ++ c' :: rest')) i j → done.length = done'.length → Pr U V c c' (i + 1 + szs done) (j + 1 + szs done')
theorem pr_at1 {U V c c' : TT} {i j : Nat} (h : Pr U V c c' i j) : At U c i := by
  induction h with
  | root => exact .root
  | nd _ _ ih => exact .nd ih
theorem pr_at2 {U V c c' : TT} {i j : Nat} (h : Pr U V c c' i j) : At V c' j := by
  induction h with
  | root => exact .root
  | nd _ _ ih => exact .nd ih
theorem bares_split {done done' : List TT} {c c' : TT} {rest rest' : List TT} (h : bares (done ++ c :: rest) = bares (done' ++ c' :: rest')) (hl : done.length = done'.length) : bares done = bares done' ∧ bare c = bare c' ∧ bares rest = bares rest' := by
  rw [bares_app, bares_app, bares, bares] at h
  have h2 := List.append_inj h (by rw [bares_len, bares_len, hl])
  exact ⟨h2.1, (List.cons.inj h2.2).1, (List.cons.inj h2.2).2⟩
theorem pr_bare {U V c c' : TT} {i j : Nat} (hb : bare U = bare V) (h : Pr U V c c' i j) : bare c = bare c' := by
  induction h with
  | root => exact hb
  | nd _ hl ih =>
    rw [bare, bare] at ih
    injection ih with e1 e2
    exact (bares_split e2 hl).2.1
theorem at_uniq {U c d : TT} {i : Nat} (h1 : At U c i) (h2 : At U d i) : c = d := by
  have a1 := at_get (fun x => x) h1
  have a2 := at_get (fun x => x) h2
  rw [a1] at a2
  exact Option.some.inj a2
theorem pr_uniq {U V c c' d d' : TT} {i j : Nat} (h1 : Pr U V c c' i j) (h2 : Pr U V d d' i j) : c = d ∧ c' = d' := ⟨at_uniq (pr_at1 h1) (pr_at1 h2), at_uniq (pr_at2 h1) (pr_at2 h2)⟩
def folL (us vs : List Bool) : Bool := (List.zipWith (fun u v => !v || u) us vs).all id
theorem folL_app : ∀ {a a' b b' : List Bool}, a.length = a'.length → folL (a ++ b) (a' ++ b') = (folL a a' && folL b b')
  | [], [], b, b', _ => by simp [folL]
  | x :: a, y :: a', b, b', h => by
    have ih := folL_app (a := a) (a' := a') (b := b) (b' := b') (by simpa using h)
    unfold folL at ih ⊢
    simp only [List.cons_append, List.zipWith_cons_cons, List.all_cons, ih, Bool.and_assoc]
theorem folL_allT : ∀ {us vs : List Bool}, us.all id = true → folL us vs = true
  | [], vs, _ => by simp [folL]
  | u :: us, [], _ => by simp [folL]
  | u :: us, v :: vs, h => by
    rw [List.all_cons, Bool.and_eq_true] at h
    have ih := folL_allT (us := us) (vs := vs) h.2
    unfold folL at ih ⊢
    simp only [List.zipWith_cons_cons, List.all_cons, ih, Bool.and_true, id_eq]
    have : u = true := h.1
    rw [this]; simp
theorem folL_noneT : ∀ {us vs : List Bool}, vs.any id = false → folL us vs = true
  | [], vs, _ => by simp [folL]
  | u :: us, [], _ => by simp [folL]
  | u :: us, v :: vs, h => by
    rw [List.any_cons, Bool.or_eq_false_iff] at h
    have ih := folL_noneT (us := us) (vs := vs) h.2
    unfold folL at ih ⊢
    simp only [List.zipWith_cons_cons, List.all_cons, ih, Bool.and_true, id_eq]
    have : v = false := h.1
    rw [this]; simp
theorem folL_bad1 : ∀ {us vs : List Bool}, us.length = vs.length → us.all id = false → vs.all id = true → folL us vs = false
  | [], [], _, h, _ => by simp at h
  | u :: us, v :: vs, hl, h, h2 => by
    rw [List.all_cons, Bool.and_eq_true] at h2
    have hv : v = true := h2.1
    subst hv
    rw [List.all_cons, Bool.and_eq_false_iff] at h
    unfold folL
    simp only [List.zipWith_cons_cons, List.all_cons, id_eq, Bool.not_true, Bool.false_or]
    rcases h with h | h
    · have : u = false := h
      rw [this]; rfl
    · have := folL_bad1 (us := us) (vs := vs) (by simpa using hl) h h2.2
      unfold folL at this
      rw [this, Bool.and_false]
theorem folL_bad2 : ∀ {us vs : List Bool}, us.length = vs.length → us.any id = false → vs.any id = true → folL us vs = false
  | [], [], _, _, h => by simp at h
  | u :: us, v :: vs, hl, h, h2 => by
    rw [List.any_cons, Bool.or_eq_false_iff] at h
    have hu : u = false := h.1
    subst hu
    rw [List.any_cons, Bool.or_eq_true] at h2
    unfold folL
    simp only [List.zipWith_cons_cons, List.all_cons, id_eq, Bool.or_false]
    rcases h2 with h2 | h2
    · have : v = true := h2
      rw [this]; rfl
    · have := folL_bad2 (us := us) (vs := vs) (by simpa using hl) h.2 h2
      unfold folL at this
      rw [this, Bool.and_false]
def fol (c c' : TT) : Bool := folL (told c) (told c')
theorem told_len2 {c c' : TT} (h : bare c = bare c') : (told c).length = (told c').length := by rw [nE_pos_told, nE_pos_told, h]
theorem tolds_len : ∀ cs : List TT, (tolds cs).length = nEs (bares cs)
  | [] => rfl
  | c :: cs => by rw [tolds, bares, nEs, List.length_append, nE_pos_told, tolds_len cs]
theorem pr_fol {U V c c' : TT} {i j : Nat} (hb : bare U = bare V) (h : Pr U V c c' i j) (hf : fol U V = true) : fol c c' = true := by
  induction h with
  | root => exact hf
  | @nd h h' done done' c c' rest rest' i j hp hl ih =>
    have hbb := pr_bare hb hp
    rw [bare, bare] at hbb
    injection hbb with e1 e2
    obtain ⟨b1, b2, b3⟩ := bares_split e2 hl
    unfold fol at ih
    rw [told, told, tolds_app, tolds_app, tolds, tolds, folL_app (by rw [tolds_len, tolds_len, b1]), folL_app (told_len2 b2)] at ih
    rw [Bool.and_eq_true, Bool.and_eq_true] at ih
    exact ih.2.1
/-- the pairs of children -/
def cp : List TT → List TT → Nat → Nat → List (TT × TT × Nat × Nat)
  | c :: cs, c' :: cs', a, b => (c, c', a, b) :: cp cs cs' (a + sz c) (b + sz c')
  | _, _, _, _ => []
def keyP (a b : Nat) : D := .tup [.int a, .int b]
def keyI (x : TT × TT × Nat × Nat) : D := keyP x.2.2.1 x.2.2.2
theorem zip_cp : ∀ (cs cs' : List TT) (a b : Nat), zipq (nums cs a) (nums cs' b) = (cp cs cs' a b).map keyI
  | [], _, _, _ => by simp [nums, zipq, cp]
  | _ :: _, [], _, _ => by simp [nums, zipq, cp]
  | c :: cs, c' :: cs', a, b => by
    rw [nums, nums, zipq, cp, List.map_cons, zip_cp cs cs']; rfl
theorem cp_len : ∀ (cs cs' : List TT) (a b : Nat), (cp cs cs' a b).length ≤ cs.length
  | [], _, _, _ => by simp [cp]
  | _ :: _, [], _, _ => by simp [cp]
  | c :: cs, c' :: cs', a, b => by
    have := cp_len cs cs' (a + sz c) (b + sz c')
    rw [cp, List.length_cons, List.length_cons]; omega
def msr : List (TT × TT × Nat × Nat) → Nat
  | [] => 0
  | x :: xs => sz x.1 + msr xs
theorem msr_app : ∀ xs ys : List (TT × TT × Nat × Nat), msr (xs ++ ys) = msr xs + msr ys
  | [], ys => by simp [msr]
  | x :: xs, ys => by simp only [List.cons_append, msr, msr_app xs ys]; omega
theorem msr_cp : ∀ (cs cs' : List TT) (a b : Nat), msr (cp cs cs' a b) ≤ szs cs
  | [], _, _, _ => by simp [cp, msr]
  | _ :: _, [], _, _ => by simp [cp, msr]
  | c :: cs, c' :: cs', a, b => by
    have := msr_cp cs cs' (a + sz c) (b + sz c')
    rw [cp, msr, szs]; simp only; omega
theorem sz_pos (U : TT) : 0 < sz U := by cases U <;> simp only [sz] <;> omega
theorem msr_len : ∀ xs : List (TT × TT × Nat × Nat), xs.length ≤ msr xs
  | [] => Nat.le_refl _
  | x :: xs => by
    have := sz_pos x.1
    have := msr_len xs
    rw [msr, List.length_cons]; omega
theorem cp_pr {U V : TT} {h h' : Hd} {i j : Nat} : ∀ (cs cs' done done' : List TT), Pr U V (.nd h (done ++ cs)) (.nd h' (done' ++ cs')) i j → done.length = done'.length → ∀ x ∈ cp cs cs' (i + 1 + szs done) (j + 1 + szs done'), Pr U V x.1 x.2.1 x.2.2.1 x.2.2.2
  | [], _, _, _, _, _ => by simp [cp]
  | _ :: _, [], _, _, _, _ => by simp [cp]
  | c :: cs, c' :: cs', done, done', hp, hl => by
    intro x hx
    rw [cp, List.mem_cons] at hx
    rcases hx with rfl | hx
    · exact .nd hp hl
    · refine cp_pr cs cs' (done ++ [c]) (done' ++ [c']) (by rw [List.append_assoc, List.append_assoc]; exact hp) (by rw [List.length_append, List.length_append, hl]; rfl) x ?_
      rw [szs_app, szs_app]; simp only [szs, Nat.add_zero, ← Nat.add_assoc]; exact hx
theorem fols_cp : ∀ (cs cs' : List TT) (a b : Nat), bares cs = bares cs' → (∀ x ∈ cp cs cs' a b, fol x.1 x.2.1 = true) → folL (tolds cs) (tolds cs') = true
  | [], [], _, _, _, _ => rfl
  | [], _ :: _, _, _, h, _ => by simp [bares] at h
  | _ :: _, [], _, _, h, _ => by simp [bares] at h
  | c :: cs, c' :: cs', a, b, h, hx => by
    rw [bares, bares] at h
    obtain ⟨h1, h2⟩ := List.cons.inj h
    rw [tolds, tolds, folL_app (told_len2 h1), Bool.and_eq_true]
    rw [cp] at hx
    exact ⟨hx (c, c', a, b) (by simp), fols_cp cs cs' (a + sz c) (b + sz c') h2 fun x h => hx x (List.mem_cons_of_mem _ h)⟩
theorem cp_lt : ∀ {cs cs' : List TT} {a b : Nat} {x : TT × TT × Nat × Nat}, x ∈ cp cs cs' a b → sz x.1 ≤ szs cs
  | [], _, _, _, _, h => by simp [cp] at h
  | _ :: _, [], _, _, _, h => by simp [cp] at h
  | c :: cs, c' :: cs', a, b, x, h => by
    rw [cp, List.mem_cons] at h
    rw [szs]
    rcases h with rfl | h
    · simp only; omega
    · have := cp_lt h; omega
end K84
end
section
set_option maxRecDepth 100000
set_option linter.all false
namespace K84
open Sf
local macro_rules
  | `(tactic| trivial) => `(tactic| simp only [WO_some, WO_none, ↓WO_map, ↓WO_bind, WO_iteN, ↓W_ok, ↓W_bad, ↓W_lift, ↓W_bnd, W_iteBad, W_ite, ↓WS_nx, ↓WS_rt, ↓WS_bk, ↓WS_ct, ↓WS_bad, ↓WS_fin, WS_iteBad, WS_ite, W_ok, W_bad, W_lift, W_bnd,
    ↓w_z, w_pS, w_pN, ↓w_varV, ↓w_var, ↓w_cint, ↓w_cbl, ↓w_cnon, ↓w_cstr, ↓w_bin, ↓w_neg, ↓w_cmp, ↓w_chn, ↓w_not, ↓w_and, ↓w_or, ↓w_one, ↓w_ifx, ↓w_tup, ↓w_lst, ↓w_dic0, ↓w_subV, ↓w_subN, ↓w_slcV, ↓w_slcN, ↓w_call, ↓w_bi, ↓w_bi2, ↓w_isi, ↓w_comp, ↓w_anyA, ↓w_pop0, ↓w_pop1, ↓w_index, ↓w_lrng, ↓w_rng1, ↓w_rng2, ↓w_rng3, ↓w_enm, ↓w_zip, ↓w_iV, ↓w_i_sub, ↓w_i_slc, ↓w_i_call, ↓w_i_tup, ↓w_i_comp,
    w_evs0, w_evs, w_evz0, w_evz, w_evc0, w_evc, ↓w_evo0, w_evo0, w_evo, ↓w_tV, ↓w_tcbl, ↓w_tnot, ↓w_tand, ↓w_tor, ↓w_tone, ↓w_t_cmp, ↓w_t_chn, ↓w_t_call, ↓w_t_sub, ↓w_t_isi, ↓w_t_bi, ↓w_t_bin, w_evts0, w_evts,
    s_nil, s_cons, o_none, o_some, ca_none, ca_some, pm_nil, pm_none, pl_nil, pl_cons, gb_none, gb_some, ↓w_has, isL_some, ↓w_hasL, ↓x_asg, ↓x_asgT, ↓x_par, ↓x_aug, setD_L, ↓x_setx, appD_L, ↓x_app, ↓x_expr, ↓x_ret, ↓x_retN, ↓x_ite, ↓x_whl, ↓x_for, ↓x_brk, ↓x_cnt, ↓x_pass, ↓WS_nil, ↓WS_cons, ↓WS_fF, ↓W_cF,
    bt_nm, bt_tp, pu_nil, pu_cons, pk_z, pk_s, pt_z, pt_s, oz_nil, oz_cons, zq_none, zq_some, wp_nil, wp_cons, bk_nil, bk_cons, fe_none, fe_0, fe_1, jn_some, mv_L, mv_D, mv_non, mv_bl, mv_int, mv_str, mv_tup, mv_F, mv_scr, mv_z,
    q_End_end, q_End_look, q_End_block, q_End_draw, q_End_tell, q_End_choose, q_Look_end, q_Look_look, q_Look_block, q_Look_draw, q_Look_tell, q_Look_choose, q_Block_end, q_Block_look, q_Block_block, q_Block_draw, q_Block_tell, q_Block_choose, q_Draw_end, q_Draw_look, q_Draw_block, q_Draw_draw, q_Draw_tell, q_Draw_choose, q_Tell_end, q_Tell_look, q_Tell_block, q_Tell_draw, q_Tell_tell, q_Tell_choose, cut_2, cut_t2, cut_t3,
    slot_var, slot_bad, slot_cint, slot_cbl, slot_cnon, slot_cstr, slot_bin, slot_neg, slot_cmp, slot_chn, slot_not, slot_and, slot_or, slot_ifx, slot_one, slot_tup, slot_lst, slot_sub, slot_slc, slot_call, slot_bi, slot_bi2, slot_isi, slot_comp, slot_lrng, slot_pop0, slot_pop1, slot_index, simple_var, simple_cint, simple_cbl, simple_cnon, simple_cstr, simple_bin, simple_neg, simple_sub, simple_slc, simple_call, simple_bi, simple_bi2, simple_isi, simple_lst, simple_tup, simple_comp, popD, popI, augop, iteq, itemsq, itemsp, List.getElem?_cons_zero, List.getElem?_cons_succ, List.set_cons_zero, List.set_cons_succ, List.replicate_succ, List.replicate_zero, List.map_cons, List.map_nil, List.cons_append, List.nil_append, List.length_cons, List.length_nil,
    Option.bind_some, Option.bind_none, Option.map_some, Option.map_none, Option.join_some, Option.toList_some, Option.toList_none, id_eq,
    frz_non, frz_bl, frz_int, frz_str, frz_tup, frz_lst, frz_dic, frz_scr, isZ_non, isZ_bl, isZ_int, isZ_str, isZ_tup, isZ_lstT, isZ_lstF, isZ_scr, tru_non, tru_bl, tru_int, tru_tup, tru_lst, asInt_int,
    c_eqI, c_neI, c_eqS, c_eqT, c_ltI, c_leI, c_gtI, c_geI, b_addI, b_subI, b_mulI, b_fdivI, b_modI, b_addL, b_addT, b_addS, b_mulL, sl_L, sl_T, bi_lenT, bi_lenL, bi_lenS, bi_absI, bi_intI, bi_listT, bi_listL, bi_listS, bi_tupT, bi_tupL, idx_T, idx_L, atq_0, atq_1, atq_2, atq_3, ixq_0, ixq_1, ixq_2,
    Nat.reduceSub, Nat.reduceAdd, Nat.reduceEqDiff, Int.reduceNeg, Int.reduceAdd, Int.reduceSub, Int.reduceMul, Int.reduceLT, Int.reduceLE, Option.some.injEq, Nat.reduceLeDiff, Nat.zero_add, List.isEmpty_cons, List.isEmpty_nil,
    if_true, if_false, ite_true, ite_false, ↓reduceIte, decide_eq_true_eq, beq_iff_eq, bne_iff_ne, ne_eq, Bool.not_eq_true', Bool.not_eq_eq_eq_not, Bool.and_true, Bool.true_and, Bool.false_and, Bool.not_true, Bool.not_false, Bool.false_eq_true, reduceCtorEq, and_true, true_and, and_self, bltg, isiq,
    f_is_number, f_nexts_of, f_walk, f_lower, f_hopes, f_follows, f_nested, f_law_pool, f_law_draw, f_law_pick, f_law_shuffled, f_law_same, f_law_fraction, f_law_chance, f_law_tree, f_law_nodes, f_law_plan, f_law_names, f_law_bare, f_law_ends, f_law_with_tells, f_law_marks, f_law,
    sig_0, sig_1, sig_2, sig_3, sig_4, sig_5, sig_6, sig_7, sig_8, sig_9, sig_10, sig_11, sig_12, sig_13, sig_14, sig_15, sig_16, sig_17, sig_18, sig_19, sig_20, sig_21, sig_22])
  | `(tactic| exists $es:term,*) => `(tactic| simp only [WO_some, WO_none, ↓WO_map, ↓WO_bind, WO_iteN, ↓W_ok, ↓W_bad, ↓W_lift, ↓W_bnd, W_iteBad, W_ite, ↓WS_nx, ↓WS_rt, ↓WS_bk, ↓WS_ct, ↓WS_bad, ↓WS_fin, WS_iteBad, WS_ite, W_ok, W_bad, W_lift, W_bnd,
    ↓w_z, w_pS, w_pN, ↓w_varV, ↓w_var, ↓w_cint, ↓w_cbl, ↓w_cnon, ↓w_cstr, ↓w_bin, ↓w_neg, ↓w_cmp, ↓w_chn, ↓w_not, ↓w_and, ↓w_or, ↓w_one, ↓w_ifx, ↓w_tup, ↓w_lst, ↓w_dic0, ↓w_subV, ↓w_subN, ↓w_slcV, ↓w_slcN, ↓w_call, ↓w_bi, ↓w_bi2, ↓w_isi, ↓w_comp, ↓w_anyA, ↓w_pop0, ↓w_pop1, ↓w_index, ↓w_lrng, ↓w_rng1, ↓w_rng2, ↓w_rng3, ↓w_enm, ↓w_zip, ↓w_iV, ↓w_i_sub, ↓w_i_slc, ↓w_i_call, ↓w_i_tup, ↓w_i_comp,
    w_evs0, w_evs, w_evz0, w_evz, w_evc0, w_evc, ↓w_evo0, w_evo0, w_evo, ↓w_tV, ↓w_tcbl, ↓w_tnot, ↓w_tand, ↓w_tor, ↓w_tone, ↓w_t_cmp, ↓w_t_chn, ↓w_t_call, ↓w_t_sub, ↓w_t_isi, ↓w_t_bi, ↓w_t_bin, w_evts0, w_evts,
    s_nil, s_cons, o_none, o_some, ca_none, ca_some, pm_nil, pm_none, pl_nil, pl_cons, gb_none, gb_some, ↓w_has, isL_some, ↓w_hasL, ↓x_asg, ↓x_asgT, ↓x_par, ↓x_aug, setD_L, ↓x_setx, appD_L, ↓x_app, ↓x_expr, ↓x_ret, ↓x_retN, ↓x_ite, ↓x_whl, ↓x_for, ↓x_brk, ↓x_cnt, ↓x_pass, ↓WS_nil, ↓WS_cons, ↓WS_fF, ↓W_cF,
    bt_nm, bt_tp, pu_nil, pu_cons, pk_z, pk_s, pt_z, pt_s, oz_nil, oz_cons, zq_none, zq_some, wp_nil, wp_cons, bk_nil, bk_cons, fe_none, fe_0, fe_1, jn_some, mv_L, mv_D, mv_non, mv_bl, mv_int, mv_str, mv_tup, mv_F, mv_scr, mv_z,
    q_End_end, q_End_look, q_End_block, q_End_draw, q_End_tell, q_End_choose, q_Look_end, q_Look_look, q_Look_block, q_Look_draw, q_Look_tell, q_Look_choose, q_Block_end, q_Block_look, q_Block_block, q_Block_draw, q_Block_tell, q_Block_choose, q_Draw_end, q_Draw_look, q_Draw_block, q_Draw_draw, q_Draw_tell, q_Draw_choose, q_Tell_end, q_Tell_look, q_Tell_block, q_Tell_draw, q_Tell_tell, q_Tell_choose, cut_2, cut_t2, cut_t3,
    slot_var, slot_bad, slot_cint, slot_cbl, slot_cnon, slot_cstr, slot_bin, slot_neg, slot_cmp, slot_chn, slot_not, slot_and, slot_or, slot_ifx, slot_one, slot_tup, slot_lst, slot_sub, slot_slc, slot_call, slot_bi, slot_bi2, slot_isi, slot_comp, slot_lrng, slot_pop0, slot_pop1, slot_index, simple_var, simple_cint, simple_cbl, simple_cnon, simple_cstr, simple_bin, simple_neg, simple_sub, simple_slc, simple_call, simple_bi, simple_bi2, simple_isi, simple_lst, simple_tup, simple_comp, popD, popI, augop, iteq, itemsq, itemsp, List.getElem?_cons_zero, List.getElem?_cons_succ, List.set_cons_zero, List.set_cons_succ, List.replicate_succ, List.replicate_zero, List.map_cons, List.map_nil, List.cons_append, List.nil_append, List.length_cons, List.length_nil,
    Option.bind_some, Option.bind_none, Option.map_some, Option.map_none, Option.join_some, Option.toList_some, Option.toList_none, id_eq,
    frz_non, frz_bl, frz_int, frz_str, frz_tup, frz_lst, frz_dic, frz_scr, isZ_non, isZ_bl, isZ_int, isZ_str, isZ_tup, isZ_lstT, isZ_lstF, isZ_scr, tru_non, tru_bl, tru_int, tru_tup, tru_lst, asInt_int,
    c_eqI, c_neI, c_eqS, c_eqT, c_ltI, c_leI, c_gtI, c_geI, b_addI, b_subI, b_mulI, b_fdivI, b_modI, b_addL, b_addT, b_addS, b_mulL, sl_L, sl_T, bi_lenT, bi_lenL, bi_lenS, bi_absI, bi_intI, bi_listT, bi_listL, bi_listS, bi_tupT, bi_tupL, idx_T, idx_L, atq_0, atq_1, atq_2, atq_3, ixq_0, ixq_1, ixq_2,
    Nat.reduceSub, Nat.reduceAdd, Nat.reduceEqDiff, Int.reduceNeg, Int.reduceAdd, Int.reduceSub, Int.reduceMul, Int.reduceLT, Int.reduceLE, Option.some.injEq, Nat.reduceLeDiff, Nat.zero_add, List.isEmpty_cons, List.isEmpty_nil,
    if_true, if_false, ite_true, ite_false, ↓reduceIte, decide_eq_true_eq, beq_iff_eq, bne_iff_ne, ne_eq, Bool.not_eq_true', Bool.not_eq_eq_eq_not, Bool.and_true, Bool.true_and, Bool.false_and, Bool.not_true, Bool.not_false, Bool.false_eq_true, reduceCtorEq, and_true, true_and, and_self, bltg, isiq,
    f_is_number, f_nexts_of, f_walk, f_lower, f_hopes, f_follows, f_nested, f_law_pool, f_law_draw, f_law_pick, f_law_shuffled, f_law_same, f_law_fraction, f_law_chance, f_law_tree, f_law_nodes, f_law_plan, f_law_names, f_law_bare, f_law_ends, f_law_with_tells, f_law_marks, f_law,
    sig_0, sig_1, sig_2, sig_3, sig_4, sig_5, sig_6, sig_7, sig_8, sig_9, sig_10, sig_11, sig_12, sig_13, sig_14, sig_15, sig_16, sig_17, sig_18, sig_19, sig_20, sig_21, sig_22, $[$es:term],*])
abbrev It := TT × TT × Nat × Nat
/-- right already, or still to be looked at -/
def Ok (S : List (Nat × Nat)) (W : List It) (c c' : TT) (i j : Nat) : Prop := (i, j) ∈ S ∨ (∃ x ∈ W, x.2.2 = (i, j)) ∨ fol c c' = true
def Cl (U V : TT) (S : List (Nat × Nat)) (W : List It) : Prop := ∀ i j, (i, j) ∈ S → ∀ c c', Pr U V c c' i j → ∃ h h' cs cs', c = .nd h cs ∧ c' = .nd h' cs' ∧ ∀ x ∈ cp cs cs' (i + 1) (j + 1), Ok S W x.1 x.2.1 x.2.2.1 x.2.2.2
theorem cl_end {U V : TT} {S : List (Nat × Nat)} (hb : bare U = bare V) (hc : Cl U V S []) : ∀ (n : Nat) (c c' : TT) (i j : Nat), sz c < n → Pr U V c c' i j → Ok S [] c c' i j → fol c c' = true
  | 0, _, _, _, _, h, _, _ => by omega
  | n + 1, c, c', i, j, hn, hp, hok => by
    rcases hok with h | ⟨x, h, _⟩ | h
    · obtain ⟨h1, h2, cs, cs', rfl, rfl, hx⟩ := hc i j h c c' hp
      have hbb := pr_bare hb hp
      rw [bare, bare] at hbb
      injection hbb with e1 e2
      unfold fol
      rw [told, told]
      refine fols_cp cs cs' (i + 1) (j + 1) e2 fun x hxm => ?_
      have hxp := cp_pr cs cs' [] [] hp rfl x (by simpa [szs] using hxm)
      have := cp_lt hxm
      rw [sz] at hn
      exact cl_end hb hc n x.1 x.2.1 x.2.2.1 x.2.2.2 (by omega) hxp (hx x hxm)
    · cases h
    · exact h
theorem hasD_key (p : Nat × Nat) : ∀ S : List (Nat × Nat), hasD (keyP p.1 p.2) (S.map fun q => keyP q.1 q.2) = decide (p ∈ S)
  | [] => rfl
  | q :: S => by
    have := hasD_key p S
    unfold hasD at this ⊢
    rw [List.map_cons, List.any_cons, this]
    have e : D.eqv (keyP q.1 q.2) (keyP p.1 p.2) = decide (p = q) := by
      obtain ⟨a, b⟩ := p
      obtain ⟨c, d⟩ := q
      simp only [keyP, D.eqv, D.eqvs, Bool.and_true]
      rw [Bool.eq_iff_iff, Bool.and_eq_true, beq_iff_eq, beq_iff_eq, decide_eq_true_eq, Prod.mk.injEq]
      omega
    rw [e]
    by_cases h1 : p = q <;> by_cases h2 : p ∈ S <;> simp [h1, h2]
theorem notin_key (p : Nat × Nat) (o : Bool) (S : List (Nat × Nat)) (vs : List D) : cmpop .notin (keyP p.1 p.2) (.dic o (S.map fun q => keyP q.1 q.2) vs) = some (decide (p ∉ S)) := by
  show (if (keyP p.1 p.2).keyOk then some (!hasD (keyP p.1 p.2) (S.map fun q => keyP q.1 q.2)) else none) = _
  rw [hasD_key]
  have : (keyP p.1 p.2).keyOk = true := rfl
  rw [this, if_pos rfl]
  by_cases h : p ∈ S <;> simp [h]
theorem put_key (p : Nat × Nat) (S : List (Nat × Nat)) (vs : List D) (v : D) (h : p ∉ S) : putq (keyP p.1 p.2) v (S.map fun q => keyP q.1 q.2) vs = ((S ++ [p]).map fun q => keyP q.1 q.2, vs ++ [v]) := by
  unfold putq
  rw [hasD_key, if_neg (by simpa using h), List.map_append]; rfl
def IF (U V : TT) (N : Nat) (n : Nat) (r : Env) : Prop := ∃ (S : List (Nat × Nat)) (W : List It) (vs : List D) (q8 q9 q10 q11 q12 : Option D), Cl U V S W ∧ Ok S W U V 0 0 ∧ (∀ x ∈ W, Pr U V x.1 x.2.1 x.2.2.1 x.2.2.2) ∧ msr W = n ∧ S.length + n ≤ N ∧
  r = [some (.tup (lay U 0)), some (.tup (lay V 0)), some (.lst false ((preL may U).map .bl)), some (.lst false ((preL sure U).map .bl)), some (.lst false ((preL may V).map .bl)), some (.lst false ((preL sure V).map .bl)), some (.dic true (S.map fun q => keyP q.1 q.2) vs), some (.lst true (W.map keyI)), q8, q9, q10, q11, q12]
theorem last_of {α : Type} (xs : List α) (h : xs ≠ []) : ∃ ys y, xs = ys ++ [y] := ⟨xs.dropLast, xs.getLast h, (List.dropLast_concat_getLast h).symm⟩
theorem w_follows {k n n' : Nat} {U V : TT} {Q : D → Env → Prop} {X : XC} {t} (hb : bare U = bare V) (hdU : df n U) (hdV : df n' V) (hsU : sz U < 50000) (hsV : sz V < 1000000) (hQ : Q (.bl (fol U V)) [none, none]) : W (callN tab (k + 3) 5 [.tup (lay U 0), .tup (lay V 0)]) Q X t := by
  refine C5 ?_
  rw [follows_is]
  unfold follows_0 follows_1 follows_2 follows_3 follows_4 follows_5
  have e1 : 0 + 1 ≤ SZ := by decide
  have e2 : 0 + 1 + 1 ≤ SZ := by decide
  have eS : 1000000 < SZ := by decide
  have hW : WH = 100000 := rfl
  trivial
  refine w_hopes hdU (by omega) ?_
  trivial
  refine w_hopes hdV (by omega) ?_
  exists e1, e2
  refine whW (sz U) (IF U V (sz U)) (by omega) ⟨[], [(U, V, 0, 0)], [], none, none, none, none, none, fun i j h => (by cases h), .inr (.inl ⟨_, List.mem_singleton.mpr rfl, rfl⟩), fun x hx => by rw [List.mem_singleton.mp hx]; exact .root, by simp [msr], by simp, rfl⟩ ?_
  rintro n r ⟨S, W, vs, q8, q9, q10, q11, q12, hcl, hok, hW, hm, hN, rfl⟩
  cases hWn : W with
  | nil =>
    subst hWn
    trivial
    rw [cl_end hb hcl (sz U + 1) U V 0 0 (by omega) .root hok] at hQ
    exact hQ
  | cons w0 W0 =>
    rw [← hWn]
    have hne : W ≠ [] := by rw [hWn]; exact List.cons_ne_nil _ _
    obtain ⟨W', w, hWw⟩ := last_of W hne
    obtain ⟨c, c', i, j⟩ := w
    subst hWw
    have f0 : (List.map keyI (W' ++ [(c, c', i, j)])).isEmpty = false := by simp
    have f1 : (List.map keyI (W' ++ [(c, c', i, j)]))[(List.map keyI (W' ++ [(c, c', i, j)])).length - 1]? = some (keyP i j) := by
      rw [List.map_append, List.length_append, List.getElem?_append_right (by simp)]
      simp [keyI]
    have f2 : (List.map keyI (W' ++ [(c, c', i, j)])).dropLast = List.map keyI W' := by
      rw [List.map_append]; exact List.dropLast_concat
    have hk1 : (keyP i j).isZ = true := rfl
    have hk2 : (keyP i j).frz = keyP i j := rfl
    have hbt : ∀ (r : Env) (is : List Nat), bindT r (.tp is) (keyP i j) = putsE r is [.int i, .int j] := fun _ _ => rfl
    have hp : Pr U V c c' i j := hW (c, c', i, j) (by simp)
    have hni := notin_key (i, j) true S vs
    have hW' : ∀ x ∈ W', Pr U V x.1 x.2.1 x.2.2.1 x.2.2.2 := fun x hx => hW x (by simp [hx])
    have hmw : msr W' + sz c = n := by rw [← hm, msr_app]; simp [msr]
    have hszc := sz_pos c
    have g1 : atq (List.map D.bl (preL sure U)) (i : Int) = some (.bl (sure c)) := by rw [atq_nat, List.getElem?_map, at_get sure (pr_at1 hp)]; rfl
    have g2 : atq (List.map D.bl (preL may V)) (j : Int) = some (.bl (may c')) := by rw [atq_nat, List.getElem?_map, at_get may (pr_at2 hp)]; rfl
    have g3 : atq (List.map D.bl (preL sure V)) (j : Int) = some (.bl (sure c')) := by rw [atq_nat, List.getElem?_map, at_get sure (pr_at2 hp)]; rfl
    have g4 : atq (List.map D.bl (preL may U)) (i : Int) = some (.bl (may c)) := by rw [atq_nat, List.getElem?_map, at_get may (pr_at1 hp)]; rfl
    have hbc := pr_bare hb hp
    -- what is left of the list, where the pair is right
    have hdone : ((i, j) ∈ S ∨ fol c c' = true) → ∀ q8 q9 q10 q11 q12, ∃ n', n' < n ∧ IF U V (sz U) n' [some (.tup (lay U 0)), some (.tup (lay V 0)), some (.lst false ((preL may U).map .bl)), some (.lst false ((preL sure U).map .bl)), some (.lst false ((preL may V).map .bl)), some (.lst false ((preL sure V).map .bl)), some (.dic true (S.map fun q => keyP q.1 q.2) vs), some (.lst true (W'.map keyI)), q8, q9, q10, q11, q12] := by
      intro hg q8 q9 q10 q11 q12
      have hokk : ∀ d d' x y, Pr U V d d' x y → Ok S (W' ++ [(c, c', i, j)]) d d' x y → Ok S W' d d' x y := by
        intro d d' x y hpd h
        rcases h with h | ⟨z, hz, hz2⟩ | h
        · exact .inl h
        · rcases List.mem_append.mp hz with hz | hz
          · exact .inr (.inl ⟨z, hz, hz2⟩)
          · rw [List.mem_singleton] at hz
            subst hz
            simp only [Prod.mk.injEq] at hz2
            obtain ⟨rfl, rfl⟩ := hz2
            rcases hg with hg | hg
            · exact .inl hg
            · obtain ⟨e1, e2⟩ := pr_uniq hpd hp
              subst e1; subst e2
              exact .inr (.inr hg)
        · exact .inr (.inr h)
      refine ⟨msr W', by omega, S, W', vs, q8, q9, q10, q11, q12, ?_, hokk _ _ _ _ .root hok, hW', rfl, by omega, rfl⟩
      intro a b hab d d' hpd
      obtain ⟨h1, h2, cs, cs', rfl, rfl, hx⟩ := hcl a b hab d d' hpd
      exact ⟨h1, h2, cs, cs', rfl, rfl, fun x hxm => hokk _ _ _ _ (cp_pr cs cs' [] [] hpd rfl x (by simpa [szs] using hxm)) (hx x hxm)⟩
    by_cases hS : (i, j) ∈ S
    · have hni2 : cmpop .notin (keyP i j) (.dic true (S.map fun q => keyP q.1 q.2) vs) = some false := by rw [hni]; simp [hS]
      exists f0, f1, f2, hk1, hk2, hbt, hni2
      exact hdone (.inl hS) _ _ _ _ _
    · have hni2 : cmpop .notin (keyP i j) (.dic true (S.map fun q => keyP q.1 q.2) vs) = some true := by rw [hni]; simp [hS]
      cases hs : sure c with
      | true =>
        rw [hs] at g1
        exists f0, f1, f2, hk1, hk2, hbt, hni2, g1
        exact hdone (.inr (folL_allT hs)) _ _ _ _ _
      | false =>
        rw [hs] at g1
        cases hm2 : may c' with
        | false =>
          rw [hm2] at g2
          exists f0, f1, f2, hk1, hk2, hbt, hni2, g1, g2
          exact hdone (.inr (folL_noneT hm2)) _ _ _ _ _
        | true =>
          rw [hm2] at g2
          have hko : (keyP i j).keyOk = true := rfl
          have hsl : S.length < SZ := by omega
          have hset : setD (some (.dic true (S.map fun q => keyP q.1 q.2) vs)) (keyP i j) (.bl true) = some (.dic true ((S ++ [(i, j)]).map fun q => keyP q.1 q.2) (vs ++ [.bl true])) := by
            rw [setD_D, hko, List.length_map, decide_eq_true hsl, Bool.and_self, if_pos rfl, put_key (i, j) S vs _ hS]
          cases hs2 : sure c' with
          | true =>
            rw [hs2] at g3
            exists f0, f1, f2, hk1, hk2, hbt, hni2, g1, g2, g3, hset
            have : fol c c' = false := folL_bad1 (told_len2 hbc) hs hs2
            have hf : fol U V = false := by
              cases h : fol U V with
              | false => rfl
              | true => rw [pr_fol hb hp h] at this; cases this
            rw [hf] at hQ
            exact hQ
          | false =>
            rw [hs2] at g3
            cases hm3 : may c with
            | false =>
              rw [hm3] at g4
              exists f0, f1, f2, hk1, hk2, hbt, hni2, g1, g2, g3, g4, hset
              have : fol c c' = false := folL_bad2 (told_len2 hbc) hm3 hm2
              have hf : fol U V = false := by
                cases h : fol U V with
                | false => rfl
                | true => rw [pr_fol hb hp h] at this; cases this
              rw [hf] at hQ
              exact hQ
            | true =>
              rw [hm3] at g4
              obtain ⟨d1, hd1⟩ := at_df (pr_at1 hp) hdU
              obtain ⟨d2, hd2⟩ := at_df (pr_at2 hp) hdV
              have fc1 : atq (lay U 0) (i : Int) = some (cell c i) := by rw [atq_nat]; exact lay_get (pr_at1 hp)
              have fc2 : atq (lay V 0) (j : Int) = some (cell c' j) := by rw [atq_nat]; exact lay_get (pr_at2 hp)
              exists f0, f1, f2, hk1, hk2, hbt, hni2, g1, g2, g3, g4, hset, fc1, fc2, frz_cell, cell_isZ
              refine w_nexts hd1 ?_
              exists fc1, fc2, frz_cell, cell_isZ
              refine w_nexts hd2 ?_
              trivial
              cases c with
              | fin => exact absurd hm3 (by decide)
              | tell c => rw [sure_tell] at hs; cases hs
              | nd h cs =>
                cases c' with
                | fin => exact absurd hm2 (by decide)
                | tell c' => rw [sure_tell] at hs2; cases hs2
                | nd h' cs' =>
                  rw [show chn (.nd h cs) i = nums cs (i + 1) from rfl, show chn (.nd h' cs') j = nums cs' (j + 1) from rfl, zip_cp]
                  have hmc := msr_cp cs cs' (i + 1) (j + 1)
                  have hmcl := msr_len (cp cs cs' (i + 1) (j + 1))
                  have hml := msr_len W'
                  rw [sz] at hmw
                  refine forW (fun xs r => ∃ (done rest : List It) (q11 q12 : Option D), cp cs cs' (i + 1) (j + 1) = done ++ rest ∧ xs = rest.map keyI ∧ r = [some (.tup (lay U 0)), some (.tup (lay V 0)), some (.lst false ((preL may U).map .bl)), some (.lst false ((preL sure U).map .bl)), some (.lst false ((preL may V).map .bl)), some (.lst false ((preL sure V).map .bl)), some (.dic true ((S ++ [(i, j)]).map fun q => keyP q.1 q.2) (vs ++ [.bl true])), some (.lst true ((W' ++ done).map keyI)), some (keyP i j), some (.int i), some (.int j), q11, q12]) ⟨[], cp cs cs' (i + 1) (j + 1), q11, q12, rfl, rfl, by rw [List.append_nil]⟩ ?_ ?_
                  · rintro x xs r ⟨done, rest, q11, q12, h1, h2, rfl⟩
                    cases rest with
                    | nil => cases h2
                    | cons y rest =>
                      rw [List.map_cons] at h2
                      obtain ⟨rfl, rfl⟩ := List.cons.inj h2
                      have hby : ∀ (r : Env) (is : List Nat), bindT r (.tp is) (keyI y) = putsE r is [.int (y.2.2.1 : Nat), .int (y.2.2.2 : Nat)] := fun _ _ => rfl
                      have hlen : (List.map keyI (W' ++ done)).length < SZ := by
                        rw [List.length_map, List.length_append]
                        have hl2 := congrArg List.length h1
                        rw [List.length_append, List.length_cons] at hl2
                        omega
                      exists hby, e2, hlen
                      exact ⟨done ++ [y], rest, _, _, by rw [h1]; simp, rfl, by rw [← List.append_assoc, List.map_append (l₁ := W' ++ done)]; rfl⟩
                  · rintro r ⟨done, rest, q11, q12, h1, h2, rfl⟩
                    cases rest with
                    | cons y rest => cases h2
                    | nil =>
                      rw [List.append_nil] at h1
                      subst h1
                      trivial
                      have hokk : ∀ d d' x y, Pr U V d d' x y → Ok S (W' ++ [(.nd h cs, .nd h' cs', i, j)]) d d' x y → Ok (S ++ [(i, j)]) (W' ++ cp cs cs' (i + 1) (j + 1)) d d' x y := by
                        intro d d' x y hpd h
                        rcases h with h | ⟨z, hz, hz2⟩ | h
                        · exact .inl (by simp [h])
                        · rcases List.mem_append.mp hz with hz | hz
                          · exact .inr (.inl ⟨z, by simp [hz], hz2⟩)
                          · rw [List.mem_singleton] at hz
                            subst hz
                            exact .inl (by rw [← hz2]; simp)
                        · exact .inr (.inr h)
                      refine ⟨msr (W' ++ cp cs cs' (i + 1) (j + 1)), by rw [msr_app]; omega, S ++ [(i, j)], W' ++ cp cs cs' (i + 1) (j + 1), vs ++ [.bl true], _, _, _, _, _, ?_, hokk _ _ _ _ .root hok, ?_, rfl, by rw [msr_app, List.length_append]; simp only [List.length_cons, List.length_nil]; omega, rfl⟩
                      · intro a b hab d d' hpd
                        rcases List.mem_append.mp hab with hab | hab
                        · obtain ⟨h1, h2, cs, cs', rfl, rfl, hx⟩ := hcl a b hab d d' hpd
                          exact ⟨h1, h2, cs, cs', rfl, rfl, fun x hxm => hokk _ _ _ _ (cp_pr cs cs' [] [] hpd rfl x (by simpa [szs] using hxm)) (hx x hxm)⟩
                        · rw [List.mem_singleton, Prod.mk.injEq] at hab
                          obtain ⟨rfl, rfl⟩ := hab
                          obtain ⟨e1, e2⟩ := pr_uniq hpd hp
                          exact ⟨h, h', cs, cs', e1, e2, fun x hxm => .inr (.inl ⟨x, by simp [hxm], rfl⟩)⟩
                      · intro x hx
                        rcases List.mem_append.mp hx with hx | hx
                        · exact hW' x hx
                        · exact cp_pr cs cs' [] [] hp rfl x (by simpa [szs] using hx)
end K84
end
section
set_option maxRecDepth 100000
set_option linter.all false
namespace K84
open Sf
local macro_rules
  | `(tactic| trivial) => `(tactic| simp only [WO_some, WO_none, ↓WO_map, ↓WO_bind, WO_iteN, ↓W_ok, ↓W_bad, ↓W_lift, ↓W_bnd, W_iteBad, W_ite, ↓WS_nx, ↓WS_rt, ↓WS_bk, ↓WS_ct, ↓WS_bad, ↓WS_fin, WS_iteBad, WS_ite, W_ok, W_bad, W_lift, W_bnd,
    ↓w_z, w_pS, w_pN, ↓w_varV, ↓w_var, ↓w_cint, ↓w_cbl, ↓w_cnon, ↓w_cstr, ↓w_bin, ↓w_neg, ↓w_cmp, ↓w_chn, ↓w_not, ↓w_and, ↓w_or, ↓w_one, ↓w_ifx, ↓w_tup, ↓w_lst, ↓w_dic0, ↓w_subV, ↓w_subN, ↓w_slcV, ↓w_slcN, ↓w_call, ↓w_bi, ↓w_bi2, ↓w_isi, ↓w_comp, ↓w_anyA, ↓w_pop0, ↓w_pop1, ↓w_index, ↓w_lrng, ↓w_rng1, ↓w_rng2, ↓w_rng3, ↓w_enm, ↓w_zip, ↓w_iV, ↓w_i_sub, ↓w_i_slc, ↓w_i_call, ↓w_i_tup, ↓w_i_comp,
    w_evs0, w_evs, w_evz0, w_evz, w_evc0, w_evc, ↓w_evo0, w_evo0, w_evo, ↓w_tV, ↓w_tcbl, ↓w_tnot, ↓w_tand, ↓w_tor, ↓w_tone, ↓w_t_cmp, ↓w_t_chn, ↓w_t_call, ↓w_t_sub, ↓w_t_isi, ↓w_t_bi, ↓w_t_bin, w_evts0, w_evts,
    s_nil, s_cons, o_none, o_some, ca_none, ca_some, pm_nil, pm_none, pl_nil, pl_cons, gb_none, gb_some, ↓w_has, isL_some, ↓w_hasL, ↓x_asg, ↓x_asgT, ↓x_par, ↓x_aug, setD_L, ↓x_setx, appD_L, ↓x_app, ↓x_expr, ↓x_ret, ↓x_retN, ↓x_ite, ↓x_whl, ↓x_for, ↓x_brk, ↓x_cnt, ↓x_pass, ↓WS_nil, ↓WS_cons, ↓WS_fF, ↓W_cF,
    bt_nm, bt_tp, pu_nil, pu_cons, pk_z, pk_s, pt_z, pt_s, oz_nil, oz_cons, zq_none, zq_some, wp_nil, wp_cons, bk_nil, bk_cons, fe_none, fe_0, fe_1, jn_some, mv_L, mv_D, mv_non, mv_bl, mv_int, mv_str, mv_tup, mv_F, mv_scr, mv_z,
    q_End_end, q_End_look, q_End_block, q_End_draw, q_End_tell, q_End_choose, q_Look_end, q_Look_look, q_Look_block, q_Look_draw, q_Look_tell, q_Look_choose, q_Block_end, q_Block_look, q_Block_block, q_Block_draw, q_Block_tell, q_Block_choose, q_Draw_end, q_Draw_look, q_Draw_block, q_Draw_draw, q_Draw_tell, q_Draw_choose, q_Tell_end, q_Tell_look, q_Tell_block, q_Tell_draw, q_Tell_tell, q_Tell_choose, cut_2, cut_t2, cut_t3,
    slot_var, slot_bad, slot_cint, slot_cbl, slot_cnon, slot_cstr, slot_bin, slot_neg, slot_cmp, slot_chn, slot_not, slot_and, slot_or, slot_ifx, slot_one, slot_tup, slot_lst, slot_sub, slot_slc, slot_call, slot_bi, slot_bi2, slot_isi, slot_comp, slot_lrng, slot_pop0, slot_pop1, slot_index, simple_var, simple_cint, simple_cbl, simple_cnon, simple_cstr, simple_bin, simple_neg, simple_sub, simple_slc, simple_call, simple_bi, simple_bi2, simple_isi, simple_lst, simple_tup, simple_comp, popD, popI, augop, iteq, itemsq, itemsp, List.getElem?_cons_zero, List.getElem?_cons_succ, List.set_cons_zero, List.set_cons_succ, List.replicate_succ, List.replicate_zero, List.map_cons, List.map_nil, List.cons_append, List.nil_append, List.length_cons, List.length_nil,
    Option.bind_some, Option.bind_none, Option.map_some, Option.map_none, Option.join_some, Option.toList_some, Option.toList_none, id_eq,
    frz_non, frz_bl, frz_int, frz_str, frz_tup, frz_lst, frz_dic, frz_scr, isZ_non, isZ_bl, isZ_int, isZ_str, isZ_tup, isZ_lstT, isZ_lstF, isZ_scr, tru_non, tru_bl, tru_int, tru_tup, tru_lst, asInt_int,
    c_eqI, c_neI, c_eqS, c_eqT, c_ltI, c_leI, c_gtI, c_geI, b_addI, b_subI, b_mulI, b_fdivI, b_modI, b_addL, b_addT, b_addS, b_mulL, sl_L, sl_T, bi_lenT, bi_lenL, bi_lenS, bi_absI, bi_intI, bi_listT, bi_listL, bi_listS, bi_tupT, bi_tupL, idx_T, idx_L, atq_0, atq_1, atq_2, atq_3, ixq_0, ixq_1, ixq_2,
    Nat.reduceSub, Nat.reduceAdd, Nat.reduceEqDiff, Int.reduceNeg, Int.reduceAdd, Int.reduceSub, Int.reduceMul, Int.reduceLT, Int.reduceLE, Option.some.injEq, Nat.reduceLeDiff, Nat.zero_add, List.isEmpty_cons, List.isEmpty_nil,
    if_true, if_false, ite_true, ite_false, ↓reduceIte, decide_eq_true_eq, beq_iff_eq, bne_iff_ne, ne_eq, Bool.not_eq_true', Bool.not_eq_eq_eq_not, Bool.and_true, Bool.true_and, Bool.false_and, Bool.not_true, Bool.not_false, Bool.false_eq_true, reduceCtorEq, and_true, true_and, and_self, bltg, isiq,
    f_is_number, f_nexts_of, f_walk, f_lower, f_hopes, f_follows, f_nested, f_law_pool, f_law_draw, f_law_pick, f_law_shuffled, f_law_same, f_law_fraction, f_law_chance, f_law_tree, f_law_nodes, f_law_plan, f_law_names, f_law_bare, f_law_ends, f_law_with_tells, f_law_marks, f_law,
    sig_0, sig_1, sig_2, sig_3, sig_4, sig_5, sig_6, sig_7, sig_8, sig_9, sig_10, sig_11, sig_12, sig_13, sig_14, sig_15, sig_16, sig_17, sig_18, sig_19, sig_20, sig_21, sig_22])
  | `(tactic| exists $es:term,*) => `(tactic| simp only [WO_some, WO_none, ↓WO_map, ↓WO_bind, WO_iteN, ↓W_ok, ↓W_bad, ↓W_lift, ↓W_bnd, W_iteBad, W_ite, ↓WS_nx, ↓WS_rt, ↓WS_bk, ↓WS_ct, ↓WS_bad, ↓WS_fin, WS_iteBad, WS_ite, W_ok, W_bad, W_lift, W_bnd,
    ↓w_z, w_pS, w_pN, ↓w_varV, ↓w_var, ↓w_cint, ↓w_cbl, ↓w_cnon, ↓w_cstr, ↓w_bin, ↓w_neg, ↓w_cmp, ↓w_chn, ↓w_not, ↓w_and, ↓w_or, ↓w_one, ↓w_ifx, ↓w_tup, ↓w_lst, ↓w_dic0, ↓w_subV, ↓w_subN, ↓w_slcV, ↓w_slcN, ↓w_call, ↓w_bi, ↓w_bi2, ↓w_isi, ↓w_comp, ↓w_anyA, ↓w_pop0, ↓w_pop1, ↓w_index, ↓w_lrng, ↓w_rng1, ↓w_rng2, ↓w_rng3, ↓w_enm, ↓w_zip, ↓w_iV, ↓w_i_sub, ↓w_i_slc, ↓w_i_call, ↓w_i_tup, ↓w_i_comp,
    w_evs0, w_evs, w_evz0, w_evz, w_evc0, w_evc, ↓w_evo0, w_evo0, w_evo, ↓w_tV, ↓w_tcbl, ↓w_tnot, ↓w_tand, ↓w_tor, ↓w_tone, ↓w_t_cmp, ↓w_t_chn, ↓w_t_call, ↓w_t_sub, ↓w_t_isi, ↓w_t_bi, ↓w_t_bin, w_evts0, w_evts,
    s_nil, s_cons, o_none, o_some, ca_none, ca_some, pm_nil, pm_none, pl_nil, pl_cons, gb_none, gb_some, ↓w_has, isL_some, ↓w_hasL, ↓x_asg, ↓x_asgT, ↓x_par, ↓x_aug, setD_L, ↓x_setx, appD_L, ↓x_app, ↓x_expr, ↓x_ret, ↓x_retN, ↓x_ite, ↓x_whl, ↓x_for, ↓x_brk, ↓x_cnt, ↓x_pass, ↓WS_nil, ↓WS_cons, ↓WS_fF, ↓W_cF,
    bt_nm, bt_tp, pu_nil, pu_cons, pk_z, pk_s, pt_z, pt_s, oz_nil, oz_cons, zq_none, zq_some, wp_nil, wp_cons, bk_nil, bk_cons, fe_none, fe_0, fe_1, jn_some, mv_L, mv_D, mv_non, mv_bl, mv_int, mv_str, mv_tup, mv_F, mv_scr, mv_z,
    q_End_end, q_End_look, q_End_block, q_End_draw, q_End_tell, q_End_choose, q_Look_end, q_Look_look, q_Look_block, q_Look_draw, q_Look_tell, q_Look_choose, q_Block_end, q_Block_look, q_Block_block, q_Block_draw, q_Block_tell, q_Block_choose, q_Draw_end, q_Draw_look, q_Draw_block, q_Draw_draw, q_Draw_tell, q_Draw_choose, q_Tell_end, q_Tell_look, q_Tell_block, q_Tell_draw, q_Tell_tell, q_Tell_choose, cut_2, cut_t2, cut_t3,
    slot_var, slot_bad, slot_cint, slot_cbl, slot_cnon, slot_cstr, slot_bin, slot_neg, slot_cmp, slot_chn, slot_not, slot_and, slot_or, slot_ifx, slot_one, slot_tup, slot_lst, slot_sub, slot_slc, slot_call, slot_bi, slot_bi2, slot_isi, slot_comp, slot_lrng, slot_pop0, slot_pop1, slot_index, simple_var, simple_cint, simple_cbl, simple_cnon, simple_cstr, simple_bin, simple_neg, simple_sub, simple_slc, simple_call, simple_bi, simple_bi2, simple_isi, simple_lst, simple_tup, simple_comp, popD, popI, augop, iteq, itemsq, itemsp, List.getElem?_cons_zero, List.getElem?_cons_succ, List.set_cons_zero, List.set_cons_succ, List.replicate_succ, List.replicate_zero, List.map_cons, List.map_nil, List.cons_append, List.nil_append, List.length_cons, List.length_nil,
    Option.bind_some, Option.bind_none, Option.map_some, Option.map_none, Option.join_some, Option.toList_some, Option.toList_none, id_eq,
    frz_non, frz_bl, frz_int, frz_str, frz_tup, frz_lst, frz_dic, frz_scr, isZ_non, isZ_bl, isZ_int, isZ_str, isZ_tup, isZ_lstT, isZ_lstF, isZ_scr, tru_non, tru_bl, tru_int, tru_tup, tru_lst, asInt_int,
    c_eqI, c_neI, c_eqS, c_eqT, c_ltI, c_leI, c_gtI, c_geI, b_addI, b_subI, b_mulI, b_fdivI, b_modI, b_addL, b_addT, b_addS, b_mulL, sl_L, sl_T, bi_lenT, bi_lenL, bi_lenS, bi_absI, bi_intI, bi_listT, bi_listL, bi_listS, bi_tupT, bi_tupL, idx_T, idx_L, atq_0, atq_1, atq_2, atq_3, ixq_0, ixq_1, ixq_2,
    Nat.reduceSub, Nat.reduceAdd, Nat.reduceEqDiff, Int.reduceNeg, Int.reduceAdd, Int.reduceSub, Int.reduceMul, Int.reduceLT, Int.reduceLE, Option.some.injEq, Nat.reduceLeDiff, Nat.zero_add, List.isEmpty_cons, List.isEmpty_nil,
    if_true, if_false, ite_true, ite_false, ↓reduceIte, decide_eq_true_eq, beq_iff_eq, bne_iff_ne, ne_eq, Bool.not_eq_true', Bool.not_eq_eq_eq_not, Bool.and_true, Bool.true_and, Bool.false_and, Bool.not_true, Bool.not_false, Bool.false_eq_true, reduceCtorEq, and_true, true_and, and_self, bltg, isiq,
    f_is_number, f_nexts_of, f_walk, f_lower, f_hopes, f_follows, f_nested, f_law_pool, f_law_draw, f_law_pick, f_law_shuffled, f_law_same, f_law_fraction, f_law_chance, f_law_tree, f_law_nodes, f_law_plan, f_law_names, f_law_bare, f_law_ends, f_law_with_tells, f_law_marks, f_law,
    sig_0, sig_1, sig_2, sig_3, sig_4, sig_5, sig_6, sig_7, sig_8, sig_9, sig_10, sig_11, sig_12, sig_13, sig_14, sig_15, sig_16, sig_17, sig_18, sig_19, sig_20, sig_21, sig_22, $[$es:term],*])
def adj : List TT → Bool
  | u :: v :: us => fol u v && adj (v :: us)
  | _ => true
theorem adj_drop {Us : List TT} {i : Nat} {u v : TT} (h : Us[i]? = some u) (h2 : Us[i + 1]? = some v) : adj (Us.drop i) = (fol u v && adj (Us.drop (i + 1))) := by
  have hl := (List.getElem?_eq_some_iff.mp h)
  have hl2 := (List.getElem?_eq_some_iff.mp h2)
  obtain ⟨a1, a2⟩ := hl
  obtain ⟨b1, b2⟩ := hl2
  rw [List.drop_eq_getElem_cons a1, List.drop_eq_getElem_cons b1, a2, b2, adj]
theorem plD_get {a b : D} {Us : List TT} {i : Nat} {u : TT} (h : Us[i]? = some u) : atq (Us.map (plD a b)) (i : Int) = some (plD a b u) := by
  rw [atq_nat, List.getElem?_map, h]; rfl
theorem w_nested {k n : Nat} {a b : D} {T : Tr} {Us : List TT} {Q : D → Env → Prop} {X : XC} {t} (hl : 1 ≤ Us.length) (hl2 : Us.length < 100) (hU : ∀ u ∈ Us, bare u = T ∧ df n u ∧ sz u < 50000) (hQ : Q (.bl (adj Us)) [none]) : W (callN tab (k + 4) 6 [.tup (Us.map (plD a b))]) Q X t := by
  refine C6 ?_
  obtain ⟨m, hm⟩ : ∃ m, Us.length = m + 1 := ⟨Us.length - 1, by omega⟩
  have e1 : rng2q 0 (((Us.map (plD a b)).length : Nat) - 1 : Int) = some (rngq 0 1 m) := by
    rw [List.length_map, hm]
    have := rng_len (n := m) (by omega)
    rwa [show ((m : Int)) = (((m + 1 : Nat) : Int) - 1) by omega] at this
  exists e1
  refine forW (fun xs r => ∃ (i j : Nat) (q : Option D), i + j = m ∧ xs = rngq (i : Int) 1 j ∧ adj Us = adj (Us.drop i) ∧ r = [some (.tup (Us.map (plD a b))), q]) ⟨0, m, none, by omega, rfl, rfl, rfl⟩ ?_ ?_
  · rintro x xs r ⟨i, j, q, h1, h2, h3, rfl⟩
    cases j with
    | zero => cases h2
    | succ j =>
      rw [rngq_succ] at h2
      obtain ⟨rfl, rfl⟩ := List.cons.inj h2
      obtain ⟨u, hu⟩ : ∃ u, Us[i]? = some u := ⟨_, List.getElem?_eq_getElem (by omega)⟩
      obtain ⟨v, hv⟩ : ∃ v, Us[i + 1]? = some v := ⟨_, List.getElem?_eq_getElem (by omega)⟩
      have f1 := plD_get (a := a) (b := b) hu
      have f2 : atq (Us.map (plD a b)) ((i : Int) + 1) = some (plD a b v) := plD_get (a := a) (b := b) hv
      have f3 : ∀ u, idx (plD a b u) (.int 2) = some (.tup (lay u 0)) := fun _ => rfl
      have f4 : ∀ u, (plD a b u).frz = plD a b u := fun _ => rfl
      obtain ⟨b1, d1, s1⟩ := hU u (List.mem_of_getElem? hu)
      obtain ⟨b2, d2, s2⟩ := hU v (List.mem_of_getElem? hv)
      exists f1, f2, f3, f4
      refine w_follows (b1.trans b2.symm) d1 d2 s1 (by omega) ?_
      have ha := adj_drop hu hv
      cases hf : fol u v with
      | false =>
        rw [hf, Bool.false_and] at ha
        rw [h3, ha] at hQ
        trivial
        exact hQ
      | true =>
        rw [hf, Bool.true_and] at ha
        trivial
        exact ⟨i + 1, j, some (.int i), by omega, rfl, by rw [h3, ha], rfl⟩
  · rintro r ⟨i, j, q, h1, h2, h3, rfl⟩
    cases j with
    | succ j => rw [rngq_succ] at h2; cases h2
    | zero =>
      trivial
      have : adj (Us.drop i) = true := by
        obtain ⟨u, hu⟩ : ∃ u, Us[i]? = some u := ⟨_, List.getElem?_eq_getElem (by omega)⟩
        obtain ⟨a1, a2⟩ := List.getElem?_eq_some_iff.mp hu
        rw [List.drop_eq_getElem_cons a1, List.drop_of_length_le (by omega), adj]
        intro u v us h; cases h
      rw [h3, this] at hQ
      exact hQ
/-! ### adjacent ones, and each row by itself -/
def adjL : List Bool → Bool
  | u :: v :: us => (!v || u) && adjL (v :: us)
  | _ => true
def mono : List Bool → Bool
  | [] => true
  | b :: bs => if b = true then mono bs else !bs.contains true
theorem adjL_false : ∀ bs : List Bool, adjL (false :: bs) = !bs.contains true
  | [] => rfl
  | b :: bs => by
    rw [adjL, List.contains_cons]
    cases b with
    | true => simp
    | false => rw [adjL_false bs]; simp
theorem adjL_mono : ∀ bs : List Bool, adjL bs = mono bs
  | [] => rfl
  | b :: bs => by
    cases b with
    | false => rw [adjL_false, mono]; simp
    | true =>
      rw [mono, if_pos rfl, ← adjL_mono bs]
      cases bs with
      | nil => rfl
      | cons b bs => rw [adjL]; simp
theorem folL_all {us vs : List Bool} {n : Nat} (h1 : us.length = n) (h2 : vs.length = n) : folL us vs = (List.range n).all fun j => !(vs[j]?.getD false) || us[j]?.getD false := by
  subst h1
  induction us generalizing vs with
  | nil =>
    cases vs with
    | nil => rfl
    | cons v vs => simp at h2
  | cons u us ih =>
    cases vs with
    | nil => simp at h2
    | cons v vs =>
      have := ih (vs := vs) (by simpa using h2)
      unfold folL at this ⊢
      rw [List.zipWith_cons_cons, List.all_cons, this, List.length_cons, List.range_succ_eq_map, List.all_cons, List.all_map]
      simp only [id_eq, List.getElem?_cons_zero, Option.getD_some]
      rfl
theorem all_and {α : Type} (f g : α → Bool) (xs : List α) : (xs.all fun x => f x && g x) = (xs.all f && xs.all g) := by
  induction xs with
  | nil => rfl
  | cons x xs ih =>
    rw [List.all_cons, List.all_cons, List.all_cons, ih]
    cases f x <;> cases g x <;> simp
theorem adj_rows {n : Nat} : ∀ (Us : List TT), (∀ u ∈ Us, (told u).length = n) → adj Us = (List.range n).all fun j => mono (Us.map fun u => (told u)[j]?.getD false)
  | [], _ => by
    rw [adj]
    · symm; rw [List.all_eq_true]; intro x _; rfl
    · intro u v us h; cases h
  | [u], _ => by
    rw [adj]
    · symm; rw [List.all_eq_true]; intro x _; rw [← adjL_mono]; rfl
    · intro u v us h; cases h
  | u :: v :: us, h => by
    have ih := adj_rows (v :: us) fun x hx => h x (List.mem_cons_of_mem _ hx)
    rw [adj, ih]
    unfold fol
    rw [folL_all (h u (by simp)) (h v (by simp)), ← all_and]
    congr 1
    funext j
    rw [← adjL_mono, ← adjL_mono]
    rfl
end K84
end
section
set_option maxRecDepth 100000
set_option linter.all false
namespace K84
open Sf
def lw_0 : S := Sf.S.par [3, 4] [Sf.E.bin (Sf.BOp.add) (Sf.E.cint 1) (Sf.E.call 8 [Sf.E.var 1, Sf.E.cint 3] []), Sf.E.ifx (Sf.E.cmp (Sf.COp.eq) (Sf.E.call 8 [Sf.E.var 1, Sf.E.cint 16] []) (Sf.E.cint 0)) (Sf.E.cint 40) (Sf.E.bin (Sf.BOp.add) (Sf.E.cint 1) (Sf.E.call 8 [Sf.E.var 1, Sf.E.cint 6] []))]
def lw_1 : S := Sf.S.asg 5 (Sf.E.call 18 [Sf.E.var 1, Sf.E.var 3, Sf.E.cint 5, Sf.E.cint 5] [])
def lw_2 : S := Sf.S.par [6, 7] [Sf.E.call 19 [Sf.E.var 5, Sf.E.tup []] [], Sf.E.tup [Sf.E.call 17 [Sf.E.var 1, Sf.E.var 3] [], Sf.E.call 17 [Sf.E.var 1, Sf.E.cint 1] []]]
def lw_3 : S := Sf.S.par [8, 9, 10] [Sf.E.call 8 [Sf.E.var 1, Sf.E.cint 4] [], Sf.E.lst [], Sf.E.lst []]
def lw_4 : S := Sf.S.asg 11 (Sf.E.comp (Sf.E.call 8 [Sf.E.var 1, Sf.E.bin (Sf.BOp.add) (Sf.E.var 4) (Sf.E.cint 1)] []) (Sf.T.nm 23) (Sf.E.var 6) [] [23])
def lw_5 : S := Sf.S.par [12, 13] [Sf.E.call 8 [Sf.E.var 1, Sf.E.bi (Sf.Bi.len) (Sf.E.var 6)] [], Sf.E.call 8 [Sf.E.var 1, Sf.E.var 4] []]
def lw_6 : S := Sf.S.for_ (Sf.T.nm 14) (Sf.E.rng1 (Sf.E.var 4)) [Sf.S.asg 15 (Sf.E.comp (Sf.E.ifx (Sf.E.cmp (Sf.COp.lt) (Sf.E.var 8) (Sf.E.cint 3)) (Sf.E.cmp (Sf.COp.gt) (Sf.E.sub (Sf.E.var 11) (Sf.E.var 20)) (Sf.E.var 14)) (Sf.E.cmp (Sf.COp.eq) (Sf.E.call 8 [Sf.E.var 1, Sf.E.cint 2] []) (Sf.E.cint 0))) (Sf.T.nm 20) (Sf.E.rng1 (Sf.E.bi (Sf.Bi.len) (Sf.E.var 6))) [] [20]), Sf.S.ite (Sf.E.and (Sf.E.cmp (Sf.COp.eq) (Sf.E.var 8) (Sf.E.cint 2)) (Sf.E.one (Sf.E.cmp (Sf.COp.eq) (Sf.E.var 14) (Sf.E.var 13)))) [Sf.S.setx 15 (Sf.E.var 12) (Sf.E.not (Sf.E.sub (Sf.E.var 15) (Sf.E.var 12)))] [], Sf.S.asgT [16, 17] (Sf.E.call 20 [Sf.E.var 1, Sf.E.var 5, Sf.E.var 15] []), Sf.S.app 9 (Sf.E.call 16 [Sf.E.sub (Sf.E.var 7) (Sf.E.cint 0), Sf.E.sub (Sf.E.var 7) (Sf.E.cint 1), Sf.E.var 16] []), Sf.S.app 10 (Sf.E.var 15)]
def lw_7 : S := Sf.S.par [18, 19] [Sf.E.call 21 [Sf.E.var 1, Sf.E.var 4] [], Sf.E.cbl true]
def lw_8 : S := Sf.S.for_ (Sf.T.nm 20) (Sf.E.rng1 (Sf.E.bi (Sf.Bi.len) (Sf.E.var 6))) [Sf.S.asg 21 (Sf.E.comp (Sf.E.sub (Sf.E.var 15) (Sf.E.var 20)) (Sf.T.nm 15) (Sf.E.var 10) [] [15]), Sf.S.asg 22 (Sf.E.ifx (Sf.E.cmp (Sf.COp.isin) (Sf.E.cbl false) (Sf.E.var 21)) (Sf.E.bin (Sf.BOp.sub) (Sf.E.index (Sf.E.var 21) (Sf.E.cbl false)) (Sf.E.cint 1)) (Sf.E.bin (Sf.BOp.sub) (Sf.E.var 4) (Sf.E.cint 1))), Sf.S.asg 19 (Sf.E.and (Sf.E.var 19) (Sf.E.one (Sf.E.cmp (Sf.COp.notin) (Sf.E.cbl true) (Sf.E.slc (Sf.E.var 21) (some (Sf.E.bin (Sf.BOp.add) (Sf.E.var 22) (Sf.E.cint 1))) none)))), Sf.S.ite (Sf.E.not (Sf.E.call 11 [Sf.E.call 3 [Sf.E.bi (Sf.Bi.tuple) (Sf.E.var 9), Sf.E.var 18, Sf.E.sub (Sf.E.var 6) (Sf.E.var 20)] [], Sf.E.var 22] [])) [Sf.S.ret (Sf.E.cbl false)] []]
def lw_9 : S := Sf.S.ite (Sf.E.not (Sf.E.call 11 [Sf.E.call 3 [Sf.E.bi (Sf.Bi.tuple) (Sf.E.var 9), Sf.E.var 18, Sf.E.sub (Sf.E.var 6) (Sf.E.neg (Sf.E.cint 1))] [], Sf.E.var 22] [])) [Sf.S.ret (Sf.E.cbl false)] []
def lw_10 : S := Sf.S.ite (Sf.E.or (Sf.E.not (Sf.E.call 11 [Sf.E.call 6 [Sf.E.bi (Sf.Bi.tuple) (Sf.E.var 9)] [], Sf.E.var 19] [])) (Sf.E.one (Sf.E.not (Sf.E.call 11 [Sf.E.call 6 [Sf.E.bi (Sf.Bi.tuple) (Sf.E.var 9)] [], Sf.E.var 19] [])))) [Sf.S.ret (Sf.E.cbl false)] []
def lk_0 : S := Sf.S.asg 15 (Sf.E.comp (Sf.E.ifx (Sf.E.cmp (Sf.COp.lt) (Sf.E.var 8) (Sf.E.cint 3)) (Sf.E.cmp (Sf.COp.gt) (Sf.E.sub (Sf.E.var 11) (Sf.E.var 20)) (Sf.E.var 14)) (Sf.E.cmp (Sf.COp.eq) (Sf.E.call 8 [Sf.E.var 1, Sf.E.cint 2] []) (Sf.E.cint 0))) (Sf.T.nm 20) (Sf.E.rng1 (Sf.E.bi (Sf.Bi.len) (Sf.E.var 6))) [] [20])
def lk_1 : S := Sf.S.ite (Sf.E.and (Sf.E.cmp (Sf.COp.eq) (Sf.E.var 8) (Sf.E.cint 2)) (Sf.E.one (Sf.E.cmp (Sf.COp.eq) (Sf.E.var 14) (Sf.E.var 13)))) [Sf.S.setx 15 (Sf.E.var 12) (Sf.E.not (Sf.E.sub (Sf.E.var 15) (Sf.E.var 12)))] []
def lk_2 : S := Sf.S.asgT [16, 17] (Sf.E.call 20 [Sf.E.var 1, Sf.E.var 5, Sf.E.var 15] [])
def lk_3 : S := Sf.S.app 9 (Sf.E.call 16 [Sf.E.sub (Sf.E.var 7) (Sf.E.cint 0), Sf.E.sub (Sf.E.var 7) (Sf.E.cint 1), Sf.E.var 16] [])
def lk_4 : S := Sf.S.app 10 (Sf.E.var 15)
theorem lk_is : lw_6 = Sf.S.for_ (Sf.T.nm 14) (Sf.E.rng1 (Sf.E.var 4)) [lk_0, lk_1, lk_2, lk_3, lk_4] := rfl
def lj_0 : S := Sf.S.asg 21 (Sf.E.comp (Sf.E.sub (Sf.E.var 15) (Sf.E.var 20)) (Sf.T.nm 15) (Sf.E.var 10) [] [15])
def lj_1 : S := Sf.S.asg 22 (Sf.E.ifx (Sf.E.cmp (Sf.COp.isin) (Sf.E.cbl false) (Sf.E.var 21)) (Sf.E.bin (Sf.BOp.sub) (Sf.E.index (Sf.E.var 21) (Sf.E.cbl false)) (Sf.E.cint 1)) (Sf.E.bin (Sf.BOp.sub) (Sf.E.var 4) (Sf.E.cint 1)))
def lj_2 : S := Sf.S.asg 19 (Sf.E.and (Sf.E.var 19) (Sf.E.one (Sf.E.cmp (Sf.COp.notin) (Sf.E.cbl true) (Sf.E.slc (Sf.E.var 21) (some (Sf.E.bin (Sf.BOp.add) (Sf.E.var 22) (Sf.E.cint 1))) none))))
def lj_3 : S := Sf.S.ite (Sf.E.not (Sf.E.call 11 [Sf.E.call 3 [Sf.E.bi (Sf.Bi.tuple) (Sf.E.var 9), Sf.E.var 18, Sf.E.sub (Sf.E.var 6) (Sf.E.var 20)] [], Sf.E.var 22] [])) [Sf.S.ret (Sf.E.cbl false)] []
theorem lj_is : lw_8 = Sf.S.for_ (Sf.T.nm 20) (Sf.E.rng1 (Sf.E.bi (Sf.Bi.len) (Sf.E.var 6))) [lj_0, lj_1, lj_2, lj_3] := rfl
theorem lw_is : law_1 = Sf.S.for_ (Sf.T.nm 2) (Sf.E.rng1 (Sf.E.cint 4)) [lw_0, lw_1, lw_2, lw_3, lw_4, lw_5, lw_6, lw_7, lw_8, lw_9, lw_10] := rfl
end K84
end
section
set_option maxRecDepth 100000
set_option linter.all false
namespace K84
open Sf
local macro_rules
  | `(tactic| trivial) => `(tactic| simp only [WO_some, WO_none, ↓WO_map, ↓WO_bind, WO_iteN, ↓W_ok, ↓W_bad, ↓W_lift, ↓W_bnd, W_iteBad, W_ite, ↓WS_nx, ↓WS_rt, ↓WS_bk, ↓WS_ct, ↓WS_bad, ↓WS_fin, WS_iteBad, WS_ite, W_ok, W_bad, W_lift, W_bnd,
    ↓w_z, w_pS, w_pN, ↓w_varV, ↓w_var, ↓w_cint, ↓w_cbl, ↓w_cnon, ↓w_cstr, ↓w_bin, ↓w_neg, ↓w_cmp, ↓w_chn, ↓w_not, ↓w_and, ↓w_or, ↓w_one, ↓w_ifx, ↓w_tup, ↓w_lst, ↓w_dic0, ↓w_subV, ↓w_subN, ↓w_slcV, ↓w_slcN, ↓w_call, ↓w_bi, ↓w_bi2, ↓w_isi, ↓w_comp, ↓w_anyA, ↓w_pop0, ↓w_pop1, ↓w_index, ↓w_lrng, ↓w_rng1, ↓w_rng2, ↓w_rng3, ↓w_enm, ↓w_zip, ↓w_iV, ↓w_i_sub, ↓w_i_slc, ↓w_i_call, ↓w_i_tup, ↓w_i_comp,
    w_evs0, w_evs, w_evz0, w_evz, w_evc0, w_evc, ↓w_evo0, w_evo0, w_evo, ↓w_tV, ↓w_tcbl, ↓w_tnot, ↓w_tand, ↓w_tor, ↓w_tone, ↓w_t_cmp, ↓w_t_chn, ↓w_t_call, ↓w_t_sub, ↓w_t_isi, ↓w_t_bi, ↓w_t_bin, w_evts0, w_evts,
    s_nil, s_cons, o_none, o_some, ca_none, ca_some, pm_nil, pm_none, pl_nil, pl_cons, gb_none, gb_some, ↓w_has, isL_some, ↓w_hasL, ↓x_asg, ↓x_asgT, ↓x_par, ↓x_aug, setD_L, ↓x_setx, appD_L, ↓x_app, ↓x_expr, ↓x_ret, ↓x_retN, ↓x_ite, ↓x_whl, ↓x_for, ↓x_brk, ↓x_cnt, ↓x_pass, ↓WS_nil, ↓WS_cons, ↓WS_fF, ↓W_cF,
    bt_nm, bt_tp, pu_nil, pu_cons, pk_z, pk_s, pt_z, pt_s, oz_nil, oz_cons, zq_none, zq_some, wp_nil, wp_cons, bk_nil, bk_cons, fe_none, fe_0, fe_1, jn_some, mv_L, mv_D, mv_non, mv_bl, mv_int, mv_str, mv_tup, mv_F, mv_scr, mv_z,
    q_End_end, q_End_look, q_End_block, q_End_draw, q_End_tell, q_End_choose, q_Look_end, q_Look_look, q_Look_block, q_Look_draw, q_Look_tell, q_Look_choose, q_Block_end, q_Block_look, q_Block_block, q_Block_draw, q_Block_tell, q_Block_choose, q_Draw_end, q_Draw_look, q_Draw_block, q_Draw_draw, q_Draw_tell, q_Draw_choose, q_Tell_end, q_Tell_look, q_Tell_block, q_Tell_draw, q_Tell_tell, q_Tell_choose, cut_2, cut_t2, cut_t3,
    slot_var, slot_bad, slot_cint, slot_cbl, slot_cnon, slot_cstr, slot_bin, slot_neg, slot_cmp, slot_chn, slot_not, slot_and, slot_or, slot_ifx, slot_one, slot_tup, slot_lst, slot_sub, slot_slc, slot_call, slot_bi, slot_bi2, slot_isi, slot_comp, slot_lrng, slot_pop0, slot_pop1, slot_index, simple_var, simple_cint, simple_cbl, simple_cnon, simple_cstr, simple_bin, simple_neg, simple_sub, simple_slc, simple_call, simple_bi, simple_bi2, simple_isi, simple_lst, simple_tup, simple_comp, popD, popI, augop, iteq, itemsq, itemsp, List.getElem?_cons_zero, List.getElem?_cons_succ, List.set_cons_zero, List.set_cons_succ, List.replicate_succ, List.replicate_zero, List.map_cons, List.map_nil, List.cons_append, List.nil_append, List.length_cons, List.length_nil,
    Option.bind_some, Option.bind_none, Option.map_some, Option.map_none, Option.join_some, Option.toList_some, Option.toList_none, id_eq,
    frz_non, frz_bl, frz_int, frz_str, frz_tup, frz_lst, frz_dic, frz_scr, isZ_non, isZ_bl, isZ_int, isZ_str, isZ_tup, isZ_lstT, isZ_lstF, isZ_scr, tru_non, tru_bl, tru_int, tru_tup, tru_lst, asInt_int,
    c_eqI, c_neI, c_eqS, c_eqT, c_ltI, c_leI, c_gtI, c_geI, b_addI, b_subI, b_mulI, b_fdivI, b_modI, b_addL, b_addT, b_addS, b_mulL, sl_L, sl_T, bi_lenT, bi_lenL, bi_lenS, bi_absI, bi_intI, bi_listT, bi_listL, bi_listS, bi_tupT, bi_tupL, idx_T, idx_L, atq_0, atq_1, atq_2, atq_3, ixq_0, ixq_1, ixq_2,
    Nat.reduceSub, Nat.reduceAdd, Nat.reduceEqDiff, Int.reduceNeg, Int.reduceAdd, Int.reduceSub, Int.reduceMul, Int.reduceLT, Int.reduceLE, Option.some.injEq, Nat.reduceLeDiff, Nat.zero_add, List.isEmpty_cons, List.isEmpty_nil,
    if_true, if_false, ite_true, ite_false, ↓reduceIte, decide_eq_true_eq, beq_iff_eq, bne_iff_ne, ne_eq, Bool.not_eq_true', Bool.not_eq_eq_eq_not, Bool.and_true, Bool.true_and, Bool.false_and, Bool.not_true, Bool.not_false, Bool.false_eq_true, reduceCtorEq, and_true, true_and, and_self, bltg, isiq,
    f_is_number, f_nexts_of, f_walk, f_lower, f_hopes, f_follows, f_nested, f_law_pool, f_law_draw, f_law_pick, f_law_shuffled, f_law_same, f_law_fraction, f_law_chance, f_law_tree, f_law_nodes, f_law_plan, f_law_names, f_law_bare, f_law_ends, f_law_with_tells, f_law_marks, f_law,
    sig_0, sig_1, sig_2, sig_3, sig_4, sig_5, sig_6, sig_7, sig_8, sig_9, sig_10, sig_11, sig_12, sig_13, sig_14, sig_15, sig_16, sig_17, sig_18, sig_19, sig_20, sig_21, sig_22])
  | `(tactic| exists $es:term,*) => `(tactic| simp only [WO_some, WO_none, ↓WO_map, ↓WO_bind, WO_iteN, ↓W_ok, ↓W_bad, ↓W_lift, ↓W_bnd, W_iteBad, W_ite, ↓WS_nx, ↓WS_rt, ↓WS_bk, ↓WS_ct, ↓WS_bad, ↓WS_fin, WS_iteBad, WS_ite, W_ok, W_bad, W_lift, W_bnd,
    ↓w_z, w_pS, w_pN, ↓w_varV, ↓w_var, ↓w_cint, ↓w_cbl, ↓w_cnon, ↓w_cstr, ↓w_bin, ↓w_neg, ↓w_cmp, ↓w_chn, ↓w_not, ↓w_and, ↓w_or, ↓w_one, ↓w_ifx, ↓w_tup, ↓w_lst, ↓w_dic0, ↓w_subV, ↓w_subN, ↓w_slcV, ↓w_slcN, ↓w_call, ↓w_bi, ↓w_bi2, ↓w_isi, ↓w_comp, ↓w_anyA, ↓w_pop0, ↓w_pop1, ↓w_index, ↓w_lrng, ↓w_rng1, ↓w_rng2, ↓w_rng3, ↓w_enm, ↓w_zip, ↓w_iV, ↓w_i_sub, ↓w_i_slc, ↓w_i_call, ↓w_i_tup, ↓w_i_comp,
    w_evs0, w_evs, w_evz0, w_evz, w_evc0, w_evc, ↓w_evo0, w_evo0, w_evo, ↓w_tV, ↓w_tcbl, ↓w_tnot, ↓w_tand, ↓w_tor, ↓w_tone, ↓w_t_cmp, ↓w_t_chn, ↓w_t_call, ↓w_t_sub, ↓w_t_isi, ↓w_t_bi, ↓w_t_bin, w_evts0, w_evts,
    s_nil, s_cons, o_none, o_some, ca_none, ca_some, pm_nil, pm_none, pl_nil, pl_cons, gb_none, gb_some, ↓w_has, isL_some, ↓w_hasL, ↓x_asg, ↓x_asgT, ↓x_par, ↓x_aug, setD_L, ↓x_setx, appD_L, ↓x_app, ↓x_expr, ↓x_ret, ↓x_retN, ↓x_ite, ↓x_whl, ↓x_for, ↓x_brk, ↓x_cnt, ↓x_pass, ↓WS_nil, ↓WS_cons, ↓WS_fF, ↓W_cF,
    bt_nm, bt_tp, pu_nil, pu_cons, pk_z, pk_s, pt_z, pt_s, oz_nil, oz_cons, zq_none, zq_some, wp_nil, wp_cons, bk_nil, bk_cons, fe_none, fe_0, fe_1, jn_some, mv_L, mv_D, mv_non, mv_bl, mv_int, mv_str, mv_tup, mv_F, mv_scr, mv_z,
    q_End_end, q_End_look, q_End_block, q_End_draw, q_End_tell, q_End_choose, q_Look_end, q_Look_look, q_Look_block, q_Look_draw, q_Look_tell, q_Look_choose, q_Block_end, q_Block_look, q_Block_block, q_Block_draw, q_Block_tell, q_Block_choose, q_Draw_end, q_Draw_look, q_Draw_block, q_Draw_draw, q_Draw_tell, q_Draw_choose, q_Tell_end, q_Tell_look, q_Tell_block, q_Tell_draw, q_Tell_tell, q_Tell_choose, cut_2, cut_t2, cut_t3,
    slot_var, slot_bad, slot_cint, slot_cbl, slot_cnon, slot_cstr, slot_bin, slot_neg, slot_cmp, slot_chn, slot_not, slot_and, slot_or, slot_ifx, slot_one, slot_tup, slot_lst, slot_sub, slot_slc, slot_call, slot_bi, slot_bi2, slot_isi, slot_comp, slot_lrng, slot_pop0, slot_pop1, slot_index, simple_var, simple_cint, simple_cbl, simple_cnon, simple_cstr, simple_bin, simple_neg, simple_sub, simple_slc, simple_call, simple_bi, simple_bi2, simple_isi, simple_lst, simple_tup, simple_comp, popD, popI, augop, iteq, itemsq, itemsp, List.getElem?_cons_zero, List.getElem?_cons_succ, List.set_cons_zero, List.set_cons_succ, List.replicate_succ, List.replicate_zero, List.map_cons, List.map_nil, List.cons_append, List.nil_append, List.length_cons, List.length_nil,
    Option.bind_some, Option.bind_none, Option.map_some, Option.map_none, Option.join_some, Option.toList_some, Option.toList_none, id_eq,
    frz_non, frz_bl, frz_int, frz_str, frz_tup, frz_lst, frz_dic, frz_scr, isZ_non, isZ_bl, isZ_int, isZ_str, isZ_tup, isZ_lstT, isZ_lstF, isZ_scr, tru_non, tru_bl, tru_int, tru_tup, tru_lst, asInt_int,
    c_eqI, c_neI, c_eqS, c_eqT, c_ltI, c_leI, c_gtI, c_geI, b_addI, b_subI, b_mulI, b_fdivI, b_modI, b_addL, b_addT, b_addS, b_mulL, sl_L, sl_T, bi_lenT, bi_lenL, bi_lenS, bi_absI, bi_intI, bi_listT, bi_listL, bi_listS, bi_tupT, bi_tupL, idx_T, idx_L, atq_0, atq_1, atq_2, atq_3, ixq_0, ixq_1, ixq_2,
    Nat.reduceSub, Nat.reduceAdd, Nat.reduceEqDiff, Int.reduceNeg, Int.reduceAdd, Int.reduceSub, Int.reduceMul, Int.reduceLT, Int.reduceLE, Option.some.injEq, Nat.reduceLeDiff, Nat.zero_add, List.isEmpty_cons, List.isEmpty_nil,
    if_true, if_false, ite_true, ite_false, ↓reduceIte, decide_eq_true_eq, beq_iff_eq, bne_iff_ne, ne_eq, Bool.not_eq_true', Bool.not_eq_eq_eq_not, Bool.and_true, Bool.true_and, Bool.false_and, Bool.not_true, Bool.not_false, Bool.false_eq_true, reduceCtorEq, and_true, true_and, and_self, bltg, isiq,
    f_is_number, f_nexts_of, f_walk, f_lower, f_hopes, f_follows, f_nested, f_law_pool, f_law_draw, f_law_pick, f_law_shuffled, f_law_same, f_law_fraction, f_law_chance, f_law_tree, f_law_nodes, f_law_plan, f_law_names, f_law_bare, f_law_ends, f_law_with_tells, f_law_marks, f_law,
    sig_0, sig_1, sig_2, sig_3, sig_4, sig_5, sig_6, sig_7, sig_8, sig_9, sig_10, sig_11, sig_12, sig_13, sig_14, sig_15, sig_16, sig_17, sig_18, sig_19, sig_20, sig_21, sig_22, $[$es:term],*])
theorem sz_le : ∀ (n : Nat) (U : TT), df n U → sz U ≤ 5 ^ n := by
  intro n U
  refine (TT.rec (motive_1 := fun U => ∀ n, df n U → sz U ≤ 5 ^ n) (motive_2 := fun cs => ∀ n, dfs n cs → szs cs ≤ cs.length * 5 ^ n) ?_ ?_ ?_ ?_ ?_ U) n
  · intro c ih n h
    cases n with
    | zero => exact h.elim
    | succ n =>
      have := ih n h
      have h2 : 0 < 5 ^ n := Nat.pow_pos (by decide)
      rw [sz, Nat.pow_succ]; omega
  · intro n _
    exact Nat.pow_pos (by decide)
  · intro h cs ih n hd
    cases n with
    | zero => exact hd.elim
    | succ n =>
      have h4 := dlt4 hd
      have := ih n hd.2
      have h2 : 0 < 5 ^ n := Nat.pow_pos (by decide)
      have h3 := Nat.mul_le_mul_right (5 ^ n) h4
      rw [sz, Nat.pow_succ]; omega
  · intro n _; exact Nat.zero_le _
  · intro c cs h1 h2 n hd
    have a1 := h1 n hd.1
    have a2 := h2 n hd.2
    rw [szs, List.length_cons, Nat.add_mul]; omega
def tabD (u : TT) : D := .lst false ((told u).map .bl)
section
variable {scr arms na nb : D} {M odd : Nat} {T : Tr} {hs : List Int} {kd po : Int}
/-- the truths of one plan are drawn -/
theorem tells_comp {p : List D} {us : List TT} {kk : Int} {q2 q15 q16 q17 q18 q19 q20 q21 q22 q23 : Option D} {Q : List D → Env → Prop} {X : XC} {t} (hp : Pl p) (hh : hs.length = nE T)
    (h : ∀ (bs : List Bool) (p : List D) (q20 : Option D), bs.length = nE T → Pl p → Q (bs.map .bl) [some scr, some (.lst true p), q2, some arms, some (.int (M : Nat)), some (enc T), some (.lst false ((ends T []).map rowD)), some (.tup [na, nb]), some (.int kd), some (.lst true (us.map (plD na nb))), some (.lst true (us.map tabD)), some (.lst true (hs.map .int)), some (.int (odd : Nat)), some (.int po), some (.int kk), q15, q16, q17, q18, q19, q20, q21, q22, q23]) :
    W (compL [20] (cF (sigOf tab) (callN tab 39) (Sf.E.ifx (Sf.E.cmp (Sf.COp.lt) (Sf.E.var 8) (Sf.E.cint 3)) (Sf.E.cmp (Sf.COp.gt) (Sf.E.sub (Sf.E.var 11) (Sf.E.var 20)) (Sf.E.var 14)) (Sf.E.cmp (Sf.COp.eq) (Sf.E.call 8 [Sf.E.var 1, Sf.E.cint 2] []) (Sf.E.cint 0))) (Sf.T.nm 20) []) (rngq 0 1 (nE T)) [some scr, some (.lst true p), q2, some arms, some (.int (M : Nat)), some (enc T), some (.lst false ((ends T []).map rowD)), some (.tup [na, nb]), some (.int kd), some (.lst true (us.map (plD na nb))), some (.lst true (us.map tabD)), some (.lst true (hs.map .int)), some (.int (odd : Nat)), some (.int po), some (.int kk), q15, q16, q17, q18, q19, q20, q21, q22, q23]) Q X t := by
  refine compW (fun xs r acc => ∃ (i j : Nat) (bs : List Bool) (p : List D) (q20 : Option D), i + j = nE T ∧ xs = rngq (i : Int) 1 j ∧ bs.length = i ∧ acc = bs.map .bl ∧ Pl p ∧ r = [some scr, some (.lst true p), q2, some arms, some (.int (M : Nat)), some (enc T), some (.lst false ((ends T []).map rowD)), some (.tup [na, nb]), some (.int kd), some (.lst true (us.map (plD na nb))), some (.lst true (us.map tabD)), some (.lst true (hs.map .int)), some (.int (odd : Nat)), some (.int po), some (.int kk), q15, q16, q17, q18, q19, q20, q21, q22, q23]) ⟨0, nE T, [], p, q20, by omega, rfl, rfl, rfl, hp, rfl⟩ ?_ ?_
  · rintro x xs r acc ⟨i, j, bs, p, q20, h1, h2, h3, rfl, hp, rfl⟩
    cases j with
    | zero => cases h2
    | succ j =>
      rw [rngq_succ] at h2
      obtain ⟨rfl, rfl⟩ := List.cons.inj h2
      have hnx : ∀ (b : Bool) (p : List D), Pl p → ∃ (i' j' : Nat) (bs' : List Bool) (p' : List D) (q20 : Option D), i' + j' = nE T ∧ rngq ((i : Int) + 1) 1 j = rngq (i' : Int) 1 j' ∧ bs'.length = i' ∧ bs.map D.bl ++ [.bl b] = bs'.map .bl ∧ Pl p' ∧ [some scr, some (.lst true p), q2, some arms, some (.int (M : Nat)), some (enc T), some (.lst false ((ends T []).map rowD)), some (.tup [na, nb]), some (.int kd), some (.lst true (us.map (plD na nb))), some (.lst true (us.map tabD)), some (.lst true (hs.map .int)), some (.int (odd : Nat)), some (.int po), some (.int kk), q15, q16, q17, q18, q19, some (.int i), q21, q22, q23] = [some scr, some (.lst true p'), q2, some arms, some (.int (M : Nat)), some (enc T), some (.lst false ((ends T []).map rowD)), some (.tup [na, nb]), some (.int kd), some (.lst true (us.map (plD na nb))), some (.lst true (us.map tabD)), some (.lst true (hs.map .int)), some (.int (odd : Nat)), some (.int po), some (.int kk), q15, q16, q17, q18, q19, q20, q21, q22, q23] := fun b p hp => ⟨i + 1, j, bs ++ [b], p, _, by omega, rfl, by rw [List.length_append, h3]; rfl, by rw [List.map_append]; rfl, hp, rfl⟩
      obtain ⟨y, hy⟩ : ∃ y, hs[i]? = some y := ⟨_, List.getElem?_eq_getElem (by omega)⟩
      have f1 : atq (hs.map D.int) (i : Int) = some (.int y) := by rw [atq_nat, List.getElem?_map, hy]; rfl
      by_cases hk : kd < 3
      · exists hk, f1, decide_true
        exact hnx _ p hp
      · exists hk, decide_false
        refine w_draw hp (by omega) (by omega) fun v p1 h4 h5 hp1 => ?_
        trivial
        exact hnx _ p1 hp1
  · rintro r acc ⟨i, j, bs, p, q20, h1, h2, h3, rfl, hp, rfl⟩
    cases j with
    | succ j => rw [rngq_succ] at h2; cases h2
    | zero => exact h bs p q20 (by omega) hp
end
end K84
end
section
set_option maxRecDepth 100000
set_option linter.all false
namespace K84
open Sf
local macro_rules
  | `(tactic| trivial) => `(tactic| simp only [WO_some, WO_none, ↓WO_map, ↓WO_bind, WO_iteN, ↓W_ok, ↓W_bad, ↓W_lift, ↓W_bnd, W_iteBad, W_ite, ↓WS_nx, ↓WS_rt, ↓WS_bk, ↓WS_ct, ↓WS_bad, ↓WS_fin, WS_iteBad, WS_ite, W_ok, W_bad, W_lift, W_bnd,
    ↓w_z, w_pS, w_pN, ↓w_varV, ↓w_var, ↓w_cint, ↓w_cbl, ↓w_cnon, ↓w_cstr, ↓w_bin, ↓w_neg, ↓w_cmp, ↓w_chn, ↓w_not, ↓w_and, ↓w_or, ↓w_one, ↓w_ifx, ↓w_tup, ↓w_lst, ↓w_dic0, ↓w_subV, ↓w_subN, ↓w_slcV, ↓w_slcN, ↓w_call, ↓w_bi, ↓w_bi2, ↓w_isi, ↓w_comp, ↓w_anyA, ↓w_pop0, ↓w_pop1, ↓w_index, ↓w_lrng, ↓w_rng1, ↓w_rng2, ↓w_rng3, ↓w_enm, ↓w_zip, ↓w_iV, ↓w_i_sub, ↓w_i_slc, ↓w_i_call, ↓w_i_tup, ↓w_i_comp,
    w_evs0, w_evs, w_evz0, w_evz, w_evc0, w_evc, ↓w_evo0, w_evo0, w_evo, ↓w_tV, ↓w_tcbl, ↓w_tnot, ↓w_tand, ↓w_tor, ↓w_tone, ↓w_t_cmp, ↓w_t_chn, ↓w_t_call, ↓w_t_sub, ↓w_t_isi, ↓w_t_bi, ↓w_t_bin, w_evts0, w_evts,
    s_nil, s_cons, o_none, o_some, ca_none, ca_some, pm_nil, pm_none, pl_nil, pl_cons, gb_none, gb_some, ↓w_has, isL_some, ↓w_hasL, ↓x_asg, ↓x_asgT, ↓x_par, ↓x_aug, setD_L, ↓x_setx, appD_L, ↓x_app, ↓x_expr, ↓x_ret, ↓x_retN, ↓x_ite, ↓x_whl, ↓x_for, ↓x_brk, ↓x_cnt, ↓x_pass, ↓WS_nil, ↓WS_cons, ↓WS_fF, ↓W_cF,
    bt_nm, bt_tp, pu_nil, pu_cons, pk_z, pk_s, pt_z, pt_s, oz_nil, oz_cons, zq_none, zq_some, wp_nil, wp_cons, bk_nil, bk_cons, fe_none, fe_0, fe_1, jn_some, mv_L, mv_D, mv_non, mv_bl, mv_int, mv_str, mv_tup, mv_F, mv_scr, mv_z,
    q_End_end, q_End_look, q_End_block, q_End_draw, q_End_tell, q_End_choose, q_Look_end, q_Look_look, q_Look_block, q_Look_draw, q_Look_tell, q_Look_choose, q_Block_end, q_Block_look, q_Block_block, q_Block_draw, q_Block_tell, q_Block_choose, q_Draw_end, q_Draw_look, q_Draw_block, q_Draw_draw, q_Draw_tell, q_Draw_choose, q_Tell_end, q_Tell_look, q_Tell_block, q_Tell_draw, q_Tell_tell, q_Tell_choose, cut_2, cut_t2, cut_t3,
    slot_var, slot_bad, slot_cint, slot_cbl, slot_cnon, slot_cstr, slot_bin, slot_neg, slot_cmp, slot_chn, slot_not, slot_and, slot_or, slot_ifx, slot_one, slot_tup, slot_lst, slot_sub, slot_slc, slot_call, slot_bi, slot_bi2, slot_isi, slot_comp, slot_lrng, slot_pop0, slot_pop1, slot_index, simple_var, simple_cint, simple_cbl, simple_cnon, simple_cstr, simple_bin, simple_neg, simple_sub, simple_slc, simple_call, simple_bi, simple_bi2, simple_isi, simple_lst, simple_tup, simple_comp, popD, popI, augop, iteq, itemsq, itemsp, List.getElem?_cons_zero, List.getElem?_cons_succ, List.set_cons_zero, List.set_cons_succ, List.replicate_succ, List.replicate_zero, List.map_cons, List.map_nil, List.cons_append, List.nil_append, List.length_cons, List.length_nil,
    Option.bind_some, Option.bind_none, Option.map_some, Option.map_none, Option.join_some, Option.toList_some, Option.toList_none, id_eq,
    frz_non, frz_bl, frz_int, frz_str, frz_tup, frz_lst, frz_dic, frz_scr, isZ_non, isZ_bl, isZ_int, isZ_str, isZ_tup, isZ_lstT, isZ_lstF, isZ_scr, tru_non, tru_bl, tru_int, tru_tup, tru_lst, asInt_int,
    c_eqI, c_neI, c_eqS, c_eqT, c_ltI, c_leI, c_gtI, c_geI, b_addI, b_subI, b_mulI, b_fdivI, b_modI, b_addL, b_addT, b_addS, b_mulL, sl_L, sl_T, bi_lenT, bi_lenL, bi_lenS, bi_absI, bi_intI, bi_listT, bi_listL, bi_listS, bi_tupT, bi_tupL, idx_T, idx_L, atq_0, atq_1, atq_2, atq_3, ixq_0, ixq_1, ixq_2,
    Nat.reduceSub, Nat.reduceAdd, Nat.reduceEqDiff, Int.reduceNeg, Int.reduceAdd, Int.reduceSub, Int.reduceMul, Int.reduceLT, Int.reduceLE, Option.some.injEq, Nat.reduceLeDiff, Nat.zero_add, List.isEmpty_cons, List.isEmpty_nil,
    if_true, if_false, ite_true, ite_false, ↓reduceIte, decide_eq_true_eq, beq_iff_eq, bne_iff_ne, ne_eq, Bool.not_eq_true', Bool.not_eq_eq_eq_not, Bool.and_true, Bool.true_and, Bool.false_and, Bool.not_true, Bool.not_false, Bool.false_eq_true, reduceCtorEq, and_true, true_and, and_self, bltg, isiq,
    f_is_number, f_nexts_of, f_walk, f_lower, f_hopes, f_follows, f_nested, f_law_pool, f_law_draw, f_law_pick, f_law_shuffled, f_law_same, f_law_fraction, f_law_chance, f_law_tree, f_law_nodes, f_law_plan, f_law_names, f_law_bare, f_law_ends, f_law_with_tells, f_law_marks, f_law,
    sig_0, sig_1, sig_2, sig_3, sig_4, sig_5, sig_6, sig_7, sig_8, sig_9, sig_10, sig_11, sig_12, sig_13, sig_14, sig_15, sig_16, sig_17, sig_18, sig_19, sig_20, sig_21, sig_22])
  | `(tactic| exists $es:term,*) => `(tactic| simp only [WO_some, WO_none, ↓WO_map, ↓WO_bind, WO_iteN, ↓W_ok, ↓W_bad, ↓W_lift, ↓W_bnd, W_iteBad, W_ite, ↓WS_nx, ↓WS_rt, ↓WS_bk, ↓WS_ct, ↓WS_bad, ↓WS_fin, WS_iteBad, WS_ite, W_ok, W_bad, W_lift, W_bnd,
    ↓w_z, w_pS, w_pN, ↓w_varV, ↓w_var, ↓w_cint, ↓w_cbl, ↓w_cnon, ↓w_cstr, ↓w_bin, ↓w_neg, ↓w_cmp, ↓w_chn, ↓w_not, ↓w_and, ↓w_or, ↓w_one, ↓w_ifx, ↓w_tup, ↓w_lst, ↓w_dic0, ↓w_subV, ↓w_subN, ↓w_slcV, ↓w_slcN, ↓w_call, ↓w_bi, ↓w_bi2, ↓w_isi, ↓w_comp, ↓w_anyA, ↓w_pop0, ↓w_pop1, ↓w_index, ↓w_lrng, ↓w_rng1, ↓w_rng2, ↓w_rng3, ↓w_enm, ↓w_zip, ↓w_iV, ↓w_i_sub, ↓w_i_slc, ↓w_i_call, ↓w_i_tup, ↓w_i_comp,
    w_evs0, w_evs, w_evz0, w_evz, w_evc0, w_evc, ↓w_evo0, w_evo0, w_evo, ↓w_tV, ↓w_tcbl, ↓w_tnot, ↓w_tand, ↓w_tor, ↓w_tone, ↓w_t_cmp, ↓w_t_chn, ↓w_t_call, ↓w_t_sub, ↓w_t_isi, ↓w_t_bi, ↓w_t_bin, w_evts0, w_evts,
    s_nil, s_cons, o_none, o_some, ca_none, ca_some, pm_nil, pm_none, pl_nil, pl_cons, gb_none, gb_some, ↓w_has, isL_some, ↓w_hasL, ↓x_asg, ↓x_asgT, ↓x_par, ↓x_aug, setD_L, ↓x_setx, appD_L, ↓x_app, ↓x_expr, ↓x_ret, ↓x_retN, ↓x_ite, ↓x_whl, ↓x_for, ↓x_brk, ↓x_cnt, ↓x_pass, ↓WS_nil, ↓WS_cons, ↓WS_fF, ↓W_cF,
    bt_nm, bt_tp, pu_nil, pu_cons, pk_z, pk_s, pt_z, pt_s, oz_nil, oz_cons, zq_none, zq_some, wp_nil, wp_cons, bk_nil, bk_cons, fe_none, fe_0, fe_1, jn_some, mv_L, mv_D, mv_non, mv_bl, mv_int, mv_str, mv_tup, mv_F, mv_scr, mv_z,
    q_End_end, q_End_look, q_End_block, q_End_draw, q_End_tell, q_End_choose, q_Look_end, q_Look_look, q_Look_block, q_Look_draw, q_Look_tell, q_Look_choose, q_Block_end, q_Block_look, q_Block_block, q_Block_draw, q_Block_tell, q_Block_choose, q_Draw_end, q_Draw_look, q_Draw_block, q_Draw_draw, q_Draw_tell, q_Draw_choose, q_Tell_end, q_Tell_look, q_Tell_block, q_Tell_draw, q_Tell_tell, q_Tell_choose, cut_2, cut_t2, cut_t3,
    slot_var, slot_bad, slot_cint, slot_cbl, slot_cnon, slot_cstr, slot_bin, slot_neg, slot_cmp, slot_chn, slot_not, slot_and, slot_or, slot_ifx, slot_one, slot_tup, slot_lst, slot_sub, slot_slc, slot_call, slot_bi, slot_bi2, slot_isi, slot_comp, slot_lrng, slot_pop0, slot_pop1, slot_index, simple_var, simple_cint, simple_cbl, simple_cnon, simple_cstr, simple_bin, simple_neg, simple_sub, simple_slc, simple_call, simple_bi, simple_bi2, simple_isi, simple_lst, simple_tup, simple_comp, popD, popI, augop, iteq, itemsq, itemsp, List.getElem?_cons_zero, List.getElem?_cons_succ, List.set_cons_zero, List.set_cons_succ, List.replicate_succ, List.replicate_zero, List.map_cons, List.map_nil, List.cons_append, List.nil_append, List.length_cons, List.length_nil,
    Option.bind_some, Option.bind_none, Option.map_some, Option.map_none, Option.join_some, Option.toList_some, Option.toList_none, id_eq,
    frz_non, frz_bl, frz_int, frz_str, frz_tup, frz_lst, frz_dic, frz_scr, isZ_non, isZ_bl, isZ_int, isZ_str, isZ_tup, isZ_lstT, isZ_lstF, isZ_scr, tru_non, tru_bl, tru_int, tru_tup, tru_lst, asInt_int,
    c_eqI, c_neI, c_eqS, c_eqT, c_ltI, c_leI, c_gtI, c_geI, b_addI, b_subI, b_mulI, b_fdivI, b_modI, b_addL, b_addT, b_addS, b_mulL, sl_L, sl_T, bi_lenT, bi_lenL, bi_lenS, bi_absI, bi_intI, bi_listT, bi_listL, bi_listS, bi_tupT, bi_tupL, idx_T, idx_L, atq_0, atq_1, atq_2, atq_3, ixq_0, ixq_1, ixq_2,
    Nat.reduceSub, Nat.reduceAdd, Nat.reduceEqDiff, Int.reduceNeg, Int.reduceAdd, Int.reduceSub, Int.reduceMul, Int.reduceLT, Int.reduceLE, Option.some.injEq, Nat.reduceLeDiff, Nat.zero_add, List.isEmpty_cons, List.isEmpty_nil,
    if_true, if_false, ite_true, ite_false, ↓reduceIte, decide_eq_true_eq, beq_iff_eq, bne_iff_ne, ne_eq, Bool.not_eq_true', Bool.not_eq_eq_eq_not, Bool.and_true, Bool.true_and, Bool.false_and, Bool.not_true, Bool.not_false, Bool.false_eq_true, reduceCtorEq, and_true, true_and, and_self, bltg, isiq,
    f_is_number, f_nexts_of, f_walk, f_lower, f_hopes, f_follows, f_nested, f_law_pool, f_law_draw, f_law_pick, f_law_shuffled, f_law_same, f_law_fraction, f_law_chance, f_law_tree, f_law_nodes, f_law_plan, f_law_names, f_law_bare, f_law_ends, f_law_with_tells, f_law_marks, f_law,
    sig_0, sig_1, sig_2, sig_3, sig_4, sig_5, sig_6, sig_7, sig_8, sig_9, sig_10, sig_11, sig_12, sig_13, sig_14, sig_15, sig_16, sig_17, sig_18, sig_19, sig_20, sig_21, sig_22, $[$es:term],*])
/-- what is known of a plan's tree -/
def Gd (T : Tr) (u : TT) : Prop := bare u = T ∧ df 6 u
theorem gd_sz {T : Tr} {u : TT} (h : Gd T u) : sz u < 50000 := by
  have := sz_le 6 u h.2
  omega
theorem gd_len {T : Tr} {u : TT} (h : Gd T u) : (told u).length = nE T := by rw [nE_pos_told, h.1]
section
variable {scr arms na nb : D} {M odd : Nat} {T : Tr} {hs : List Int} {kd po : Int}
theorem lw6 {p : List D} {q2 q14 q15 q16 q17 q18 q19 q20 q21 q22 q23 : Option D} {N : Env → Prop} {R : D → Env → Prop} {B K : Env → Prop} {X : XC} {t} (hp : Pl p) (hw : wf 5 T) (hnE : nE T < 2000) (hM : M < 100) (hh : hs.length = nE T) (ho : odd < nE T) (hna : na.isZ = true) (hnb : nb.isZ = true) (hz15 : zq q15 = true) (hz20 : zq q20 = true)
    (h : ∀ (us : List TT) (p : List D) (q14 q15 q16 q17 : Option D), us.length = M → (∀ u ∈ us, Gd T u) → Pl p → zq q15 = true → N [some scr, some (.lst true p), q2, some arms, some (.int (M : Nat)), some (enc T), some (.lst false ((ends T []).map rowD)), some (.tup [na, nb]), some (.int kd), some (.lst true (us.map (plD na nb))), some (.lst true (us.map tabD)), some (.lst true (hs.map .int)), some (.int (odd : Nat)), some (.int po), q14, q15, q16, q17, q18, q19, q20, q21, q22, q23]) :
    WS (ex (sigOf tab) (callN tab 39) lw_6 [some scr, some (.lst true p), q2, some arms, some (.int (M : Nat)), some (enc T), some (.lst false ((ends T []).map rowD)), some (.tup [na, nb]), some (.int kd), some (.lst true []), some (.lst true []), some (.lst true (hs.map .int)), some (.int (odd : Nat)), some (.int po), q14, q15, q16, q17, q18, q19, q20, q21, q22, q23]) N R B K X t := by
  have e1 : rng2q 0 (M : Int) = some (rngq 0 1 M) := rng_len (by omega)
  have eS : 5000 < SZ := by decide
  have fna := frz_isZ na hna
  have fnb := frz_isZ nb hnb
  rw [lk_is]
  exists e1
  refine forW (fun xs r => ∃ (i j : Nat) (us : List TT) (p : List D) (q14 q15 q16 q17 : Option D), i + j = M ∧ xs = rngq (i : Int) 1 j ∧ us.length = i ∧ (∀ u ∈ us, Gd T u) ∧ Pl p ∧ zq q15 = true ∧ r = [some scr, some (.lst true p), q2, some arms, some (.int (M : Nat)), some (enc T), some (.lst false ((ends T []).map rowD)), some (.tup [na, nb]), some (.int kd), some (.lst true (us.map (plD na nb))), some (.lst true (us.map tabD)), some (.lst true (hs.map .int)), some (.int (odd : Nat)), some (.int po), q14, q15, q16, q17, q18, q19, q20, q21, q22, q23]) ⟨0, M, [], p, q14, q15, q16, q17, by omega, rfl, rfl, by simp, hp, hz15, rfl⟩ ?_ ?_
  · rintro x xs r ⟨i, j, us, p, q14, q15, q16, q17, h1, h2, h3, hus, hp, hz15, rfl⟩
    cases j with
    | zero => cases h2
    | succ j =>
      rw [rngq_succ] at h2
      obtain ⟨rfl, rfl⟩ := List.cons.inj h2
      have e2 : rng2q 0 (((ends T []).map rowD).length : Int) = some (rngq 0 1 (nE T)) := by
        rw [List.length_map, ends_len]
        unfold rng2q
        have e1 : small 0 = true := by decide
        have e4 : small ((nE T : Nat) : Int) = true := by
          unfold small
          have h1 : -(2 ^ 40) < ((nE T : Nat) : Int) := by omega
          have h2 : ((nE T : Nat) : Int) < 2 ^ 40 := by omega
          rw [decide_eq_true h1, decide_eq_true h2]; rfl
        have e5 : (((nE T : Nat) : Int) - 0).toNat = nE T := by omega
        rw [e1, e4, e5, decide_eq_true (show nE T ≤ SZ by omega)]
        rfl
      simp only [↓WS_fF, bt_nm, WO_some, ↓WS_cons]
      unfold lk_0
      exists e2, hz20
      refine tells_comp hp hh fun bs p1 q20' hbl hp1 => ?_
      have hlt1 : (List.map (plD na nb) us).length < SZ := by rw [List.length_map]; omega
      have hlt2 : (List.map tabD us).length < SZ := by rw [List.length_map]; omega
      -- behind the truths
      have hrest : ∀ (bs : List Bool) (p : List D) (o : Bool), bs.length = nE T → Pl p → WS (exs (sigOf tab) (callN tab 39) [lk_2, lk_3, lk_4] [some scr, some (.lst true p), q2, some arms, some (.int (M : Nat)), some (enc T), some (.lst false ((ends T []).map rowD)), some (.tup [na, nb]), some (.int kd), some (.lst true (us.map (plD na nb))), some (.lst true (us.map tabD)), some (.lst true (hs.map .int)), some (.int (odd : Nat)), some (.int po), some (.int (i : Int)), some (.lst o (bs.map .bl)), q16, q17, q18, q19, q20, q21, q22, q23]) (fun r => ∃ (i' j' : Nat) (us : List TT) (p : List D) (q14 q15 q16 q17 : Option D), i' + j' = M ∧ rngq ((i : Int) + 1) 1 j = rngq (i' : Int) 1 j' ∧ us.length = i' ∧ (∀ u ∈ us, Gd T u) ∧ Pl p ∧ zq q15 = true ∧ r = [some scr, some (.lst true p), q2, some arms, some (.int (M : Nat)), some (enc T), some (.lst false ((ends T []).map rowD)), some (.tup [na, nb]), some (.int kd), some (.lst true (us.map (plD na nb))), some (.lst true (us.map tabD)), some (.lst true (hs.map .int)), some (.int (odd : Nat)), some (.int po), q14, q15, q16, q17, q18, q19, q20, q21, q22, q23]) R N (fun r => ∃ (i' j' : Nat) (us : List TT) (p : List D) (q14 q15 q16 q17 : Option D), i' + j' = M ∧ rngq ((i : Int) + 1) 1 j = rngq (i' : Int) 1 j' ∧ us.length = i' ∧ (∀ u ∈ us, Gd T u) ∧ Pl p ∧ zq q15 = true ∧ r = [some scr, some (.lst true p), q2, some arms, some (.int (M : Nat)), some (enc T), some (.lst false ((ends T []).map rowD)), some (.tup [na, nb]), some (.int kd), some (.lst true (us.map (plD na nb))), some (.lst true (us.map tabD)), some (.lst true (hs.map .int)), some (.int (odd : Nat)), some (.int po), q14, q15, q16, q17, q18, q19, q20, q21, q22, q23]) X ⟨⟩ := by
        intro bs p o hbl hp
        unfold lk_2 lk_3 lk_4
        cases o <;>
        · exists frz_enc, enc_isZ
          refine w_tells 32 5 T p bs _ _ _ (by omega) hw hp (by omega) fun U p2 hdU hbU htU hp2 => ?_
          rw [← hbl, List.take_length] at htU
          exists frz_encT, encT_isZ
          exists hna, hnb, fna, fnb, frz_encT, encT_isZ
          have hG : Gd T U := ⟨hbU, hdU⟩
          refine w_plan (k := 31) (n := 6) hna hnb hdU (by have := gd_sz hG; omega) ?_
          exists hlt1, hlt2
          have hb2 : D.lst false (List.map D.bl bs) = tabD U := by rw [tabD, htU]
          refine ⟨i + 1, j, us ++ [U], p2, some (.int i), some (.lst false (bs.map .bl)), some (encT U), some (.lst false ((bs.drop (nE T)).map .bl)), by omega, rfl, by rw [List.length_append, h3]; rfl, ?_, hp2, rfl, ?_⟩
          · intro u hu
            rcases List.mem_append.mp hu with hu | hu
            · exact hus u hu
            · rw [List.mem_singleton.mp hu]; exact hG
          · rw [List.map_append, List.map_append, hb2]; rfl
      have hob : odd < bs.length := by omega
      obtain ⟨y, hy⟩ : ∃ y, bs[odd]? = some y := ⟨_, List.getElem?_eq_getElem hob⟩
      have f1 : atq (bs.map D.bl) (odd : Int) = some (.bl y) := by rw [atq_nat, List.getElem?_map, hy]; rfl
      have f2 : ixq (bs.map D.bl).length (odd : Int) = some odd := by rw [List.length_map]; exact ixq_nat hob
      have f3 : (bs.map D.bl).set odd (.bl !y) = (bs.set odd !y).map .bl := by rw [← List.map_set]
      have r1 := hrest bs p1 true hbl hp1
      have r2 := hrest (bs.set odd !y) p1 true (by rw [List.length_set]; exact hbl) hp1
      rw [WS_cons] at r1 r2
      by_cases hk : kd = 2
      · have hk' := eq_true hk
        by_cases hj : (i : Int) = po
        · have hj' := eq_true hj
          trivial
          unfold lk_1
          exists hk', hj', f1, f2, f3
          exact r2
        · trivial
          unfold lk_1
          exists hk', hj
          exact r1
      · trivial
        unfold lk_1
        exists hk
        exact r1
  · rintro r ⟨i, j, us, p, q14, q15, q16, q17, h1, h2, h3, hus, hp, hz15, rfl⟩
    cases j with
    | succ j => rw [rngq_succ] at h2; cases h2
    | zero => exact h us p q14 q15 q16 q17 (by omega) hus hp hz15
end
end K84
end
section
set_option maxRecDepth 100000
set_option linter.all false
namespace K84
open Sf
local macro_rules
  | `(tactic| trivial) => `(tactic| simp only [WO_some, WO_none, ↓WO_map, ↓WO_bind, WO_iteN, ↓W_ok, ↓W_bad, ↓W_lift, ↓W_bnd, W_iteBad, W_ite, ↓WS_nx, ↓WS_rt, ↓WS_bk, ↓WS_ct, ↓WS_bad, ↓WS_fin, WS_iteBad, WS_ite, W_ok, W_bad, W_lift, W_bnd,
    ↓w_z, w_pS, w_pN, ↓w_varV, ↓w_var, ↓w_cint, ↓w_cbl, ↓w_cnon, ↓w_cstr, ↓w_bin, ↓w_neg, ↓w_cmp, ↓w_chn, ↓w_not, ↓w_and, ↓w_or, ↓w_one, ↓w_ifx, ↓w_tup, ↓w_lst, ↓w_dic0, ↓w_subV, ↓w_subN, ↓w_slcV, ↓w_slcN, ↓w_call, ↓w_bi, ↓w_bi2, ↓w_isi, ↓w_comp, ↓w_anyA, ↓w_pop0, ↓w_pop1, ↓w_index, ↓w_lrng, ↓w_rng1, ↓w_rng2, ↓w_rng3, ↓w_enm, ↓w_zip, ↓w_iV, ↓w_i_sub, ↓w_i_slc, ↓w_i_call, ↓w_i_tup, ↓w_i_comp,
    w_evs0, w_evs, w_evz0, w_evz, w_evc0, w_evc, ↓w_evo0, w_evo0, w_evo, ↓w_tV, ↓w_tcbl, ↓w_tnot, ↓w_tand, ↓w_tor, ↓w_tone, ↓w_t_cmp, ↓w_t_chn, ↓w_t_call, ↓w_t_sub, ↓w_t_isi, ↓w_t_bi, ↓w_t_bin, w_evts0, w_evts,
    s_nil, s_cons, o_none, o_some, ca_none, ca_some, pm_nil, pm_none, pl_nil, pl_cons, gb_none, gb_some, ↓w_has, isL_some, ↓w_hasL, ↓x_asg, ↓x_asgT, ↓x_par, ↓x_aug, setD_L, ↓x_setx, appD_L, ↓x_app, ↓x_expr, ↓x_ret, ↓x_retN, ↓x_ite, ↓x_whl, ↓x_for, ↓x_brk, ↓x_cnt, ↓x_pass, ↓WS_nil, ↓WS_cons, ↓WS_fF, ↓W_cF,
    bt_nm, bt_tp, pu_nil, pu_cons, pk_z, pk_s, pt_z, pt_s, oz_nil, oz_cons, zq_none, zq_some, wp_nil, wp_cons, bk_nil, bk_cons, fe_none, fe_0, fe_1, jn_some, mv_L, mv_D, mv_non, mv_bl, mv_int, mv_str, mv_tup, mv_F, mv_scr, mv_z,
    q_End_end, q_End_look, q_End_block, q_End_draw, q_End_tell, q_End_choose, q_Look_end, q_Look_look, q_Look_block, q_Look_draw, q_Look_tell, q_Look_choose, q_Block_end, q_Block_look, q_Block_block, q_Block_draw, q_Block_tell, q_Block_choose, q_Draw_end, q_Draw_look, q_Draw_block, q_Draw_draw, q_Draw_tell, q_Draw_choose, q_Tell_end, q_Tell_look, q_Tell_block, q_Tell_draw, q_Tell_tell, q_Tell_choose, cut_2, cut_t2, cut_t3,
    slot_var, slot_bad, slot_cint, slot_cbl, slot_cnon, slot_cstr, slot_bin, slot_neg, slot_cmp, slot_chn, slot_not, slot_and, slot_or, slot_ifx, slot_one, slot_tup, slot_lst, slot_sub, slot_slc, slot_call, slot_bi, slot_bi2, slot_isi, slot_comp, slot_lrng, slot_pop0, slot_pop1, slot_index, simple_var, simple_cint, simple_cbl, simple_cnon, simple_cstr, simple_bin, simple_neg, simple_sub, simple_slc, simple_call, simple_bi, simple_bi2, simple_isi, simple_lst, simple_tup, simple_comp, popD, popI, augop, iteq, itemsq, itemsp, List.getElem?_cons_zero, List.getElem?_cons_succ, List.set_cons_zero, List.set_cons_succ, List.replicate_succ, List.replicate_zero, List.map_cons, List.map_nil, List.cons_append, List.nil_append, List.length_cons, List.length_nil,
    Option.bind_some, Option.bind_none, Option.map_some, Option.map_none, Option.join_some, Option.toList_some, Option.toList_none, id_eq,
    frz_non, frz_bl, frz_int, frz_str, frz_tup, frz_lst, frz_dic, frz_scr, isZ_non, isZ_bl, isZ_int, isZ_str, isZ_tup, isZ_lstT, isZ_lstF, isZ_scr, tru_non, tru_bl, tru_int, tru_tup, tru_lst, asInt_int,
    c_eqI, c_neI, c_eqS, c_eqT, c_ltI, c_leI, c_gtI, c_geI, b_addI, b_subI, b_mulI, b_fdivI, b_modI, b_addL, b_addT, b_addS, b_mulL, sl_L, sl_T, bi_lenT, bi_lenL, bi_lenS, bi_absI, bi_intI, bi_listT, bi_listL, bi_listS, bi_tupT, bi_tupL, idx_T, idx_L, atq_0, atq_1, atq_2, atq_3, ixq_0, ixq_1, ixq_2,
    Nat.reduceSub, Nat.reduceAdd, Nat.reduceEqDiff, Int.reduceNeg, Int.reduceAdd, Int.reduceSub, Int.reduceMul, Int.reduceLT, Int.reduceLE, Option.some.injEq, Nat.reduceLeDiff, Nat.zero_add, List.isEmpty_cons, List.isEmpty_nil,
    if_true, if_false, ite_true, ite_false, ↓reduceIte, decide_eq_true_eq, beq_iff_eq, bne_iff_ne, ne_eq, Bool.not_eq_true', Bool.not_eq_eq_eq_not, Bool.and_true, Bool.true_and, Bool.false_and, Bool.not_true, Bool.not_false, Bool.false_eq_true, reduceCtorEq, and_true, true_and, and_self, bltg, isiq,
    f_is_number, f_nexts_of, f_walk, f_lower, f_hopes, f_follows, f_nested, f_law_pool, f_law_draw, f_law_pick, f_law_shuffled, f_law_same, f_law_fraction, f_law_chance, f_law_tree, f_law_nodes, f_law_plan, f_law_names, f_law_bare, f_law_ends, f_law_with_tells, f_law_marks, f_law,
    sig_0, sig_1, sig_2, sig_3, sig_4, sig_5, sig_6, sig_7, sig_8, sig_9, sig_10, sig_11, sig_12, sig_13, sig_14, sig_15, sig_16, sig_17, sig_18, sig_19, sig_20, sig_21, sig_22])
  | `(tactic| exists $es:term,*) => `(tactic| simp only [WO_some, WO_none, ↓WO_map, ↓WO_bind, WO_iteN, ↓W_ok, ↓W_bad, ↓W_lift, ↓W_bnd, W_iteBad, W_ite, ↓WS_nx, ↓WS_rt, ↓WS_bk, ↓WS_ct, ↓WS_bad, ↓WS_fin, WS_iteBad, WS_ite, W_ok, W_bad, W_lift, W_bnd,
    ↓w_z, w_pS, w_pN, ↓w_varV, ↓w_var, ↓w_cint, ↓w_cbl, ↓w_cnon, ↓w_cstr, ↓w_bin, ↓w_neg, ↓w_cmp, ↓w_chn, ↓w_not, ↓w_and, ↓w_or, ↓w_one, ↓w_ifx, ↓w_tup, ↓w_lst, ↓w_dic0, ↓w_subV, ↓w_subN, ↓w_slcV, ↓w_slcN, ↓w_call, ↓w_bi, ↓w_bi2, ↓w_isi, ↓w_comp, ↓w_anyA, ↓w_pop0, ↓w_pop1, ↓w_index, ↓w_lrng, ↓w_rng1, ↓w_rng2, ↓w_rng3, ↓w_enm, ↓w_zip, ↓w_iV, ↓w_i_sub, ↓w_i_slc, ↓w_i_call, ↓w_i_tup, ↓w_i_comp,
    w_evs0, w_evs, w_evz0, w_evz, w_evc0, w_evc, ↓w_evo0, w_evo0, w_evo, ↓w_tV, ↓w_tcbl, ↓w_tnot, ↓w_tand, ↓w_tor, ↓w_tone, ↓w_t_cmp, ↓w_t_chn, ↓w_t_call, ↓w_t_sub, ↓w_t_isi, ↓w_t_bi, ↓w_t_bin, w_evts0, w_evts,
    s_nil, s_cons, o_none, o_some, ca_none, ca_some, pm_nil, pm_none, pl_nil, pl_cons, gb_none, gb_some, ↓w_has, isL_some, ↓w_hasL, ↓x_asg, ↓x_asgT, ↓x_par, ↓x_aug, setD_L, ↓x_setx, appD_L, ↓x_app, ↓x_expr, ↓x_ret, ↓x_retN, ↓x_ite, ↓x_whl, ↓x_for, ↓x_brk, ↓x_cnt, ↓x_pass, ↓WS_nil, ↓WS_cons, ↓WS_fF, ↓W_cF,
    bt_nm, bt_tp, pu_nil, pu_cons, pk_z, pk_s, pt_z, pt_s, oz_nil, oz_cons, zq_none, zq_some, wp_nil, wp_cons, bk_nil, bk_cons, fe_none, fe_0, fe_1, jn_some, mv_L, mv_D, mv_non, mv_bl, mv_int, mv_str, mv_tup, mv_F, mv_scr, mv_z,
    q_End_end, q_End_look, q_End_block, q_End_draw, q_End_tell, q_End_choose, q_Look_end, q_Look_look, q_Look_block, q_Look_draw, q_Look_tell, q_Look_choose, q_Block_end, q_Block_look, q_Block_block, q_Block_draw, q_Block_tell, q_Block_choose, q_Draw_end, q_Draw_look, q_Draw_block, q_Draw_draw, q_Draw_tell, q_Draw_choose, q_Tell_end, q_Tell_look, q_Tell_block, q_Tell_draw, q_Tell_tell, q_Tell_choose, cut_2, cut_t2, cut_t3,
    slot_var, slot_bad, slot_cint, slot_cbl, slot_cnon, slot_cstr, slot_bin, slot_neg, slot_cmp, slot_chn, slot_not, slot_and, slot_or, slot_ifx, slot_one, slot_tup, slot_lst, slot_sub, slot_slc, slot_call, slot_bi, slot_bi2, slot_isi, slot_comp, slot_lrng, slot_pop0, slot_pop1, slot_index, simple_var, simple_cint, simple_cbl, simple_cnon, simple_cstr, simple_bin, simple_neg, simple_sub, simple_slc, simple_call, simple_bi, simple_bi2, simple_isi, simple_lst, simple_tup, simple_comp, popD, popI, augop, iteq, itemsq, itemsp, List.getElem?_cons_zero, List.getElem?_cons_succ, List.set_cons_zero, List.set_cons_succ, List.replicate_succ, List.replicate_zero, List.map_cons, List.map_nil, List.cons_append, List.nil_append, List.length_cons, List.length_nil,
    Option.bind_some, Option.bind_none, Option.map_some, Option.map_none, Option.join_some, Option.toList_some, Option.toList_none, id_eq,
    frz_non, frz_bl, frz_int, frz_str, frz_tup, frz_lst, frz_dic, frz_scr, isZ_non, isZ_bl, isZ_int, isZ_str, isZ_tup, isZ_lstT, isZ_lstF, isZ_scr, tru_non, tru_bl, tru_int, tru_tup, tru_lst, asInt_int,
    c_eqI, c_neI, c_eqS, c_eqT, c_ltI, c_leI, c_gtI, c_geI, b_addI, b_subI, b_mulI, b_fdivI, b_modI, b_addL, b_addT, b_addS, b_mulL, sl_L, sl_T, bi_lenT, bi_lenL, bi_lenS, bi_absI, bi_intI, bi_listT, bi_listL, bi_listS, bi_tupT, bi_tupL, idx_T, idx_L, atq_0, atq_1, atq_2, atq_3, ixq_0, ixq_1, ixq_2,
    Nat.reduceSub, Nat.reduceAdd, Nat.reduceEqDiff, Int.reduceNeg, Int.reduceAdd, Int.reduceSub, Int.reduceMul, Int.reduceLT, Int.reduceLE, Option.some.injEq, Nat.reduceLeDiff, Nat.zero_add, List.isEmpty_cons, List.isEmpty_nil,
    if_true, if_false, ite_true, ite_false, ↓reduceIte, decide_eq_true_eq, beq_iff_eq, bne_iff_ne, ne_eq, Bool.not_eq_true', Bool.not_eq_eq_eq_not, Bool.and_true, Bool.true_and, Bool.false_and, Bool.not_true, Bool.not_false, Bool.false_eq_true, reduceCtorEq, and_true, true_and, and_self, bltg, isiq,
    f_is_number, f_nexts_of, f_walk, f_lower, f_hopes, f_follows, f_nested, f_law_pool, f_law_draw, f_law_pick, f_law_shuffled, f_law_same, f_law_fraction, f_law_chance, f_law_tree, f_law_nodes, f_law_plan, f_law_names, f_law_bare, f_law_ends, f_law_with_tells, f_law_marks, f_law,
    sig_0, sig_1, sig_2, sig_3, sig_4, sig_5, sig_6, sig_7, sig_8, sig_9, sig_10, sig_11, sig_12, sig_13, sig_14, sig_15, sig_16, sig_17, sig_18, sig_19, sig_20, sig_21, sig_22, $[$es:term],*])
def firstF : List Bool → Option Nat
  | [] => none
  | b :: bs => if b = true then (firstF bs).map (· + 1) else some 0
theorem idxD : ∀ bs : List Bool, (bs.map D.bl).findIdx? (fun z => D.eqv z (.bl false)) = firstF bs
  | [] => rfl
  | b :: bs => by
    rw [List.map_cons, List.findIdx?_cons, firstF]
    cases b with
    | true =>
      have e : D.eqv (.bl true) (.bl false) = false := by simp only [D.eqv]; rfl
      rw [e, if_neg (by decide), if_pos rfl, idxD bs]
    | false =>
      have e : D.eqv (.bl false) (.bl false) = true := by simp only [D.eqv]; rfl
      rw [e, if_pos rfl, if_neg (by decide)]
theorem first_some : ∀ {bs : List Bool} {i : Nat} {n : Int}, firstF bs = some i → bs.contains false = true ∧ dueL bs n = n + i - 1 ∧ mono bs = !(bs.drop i).contains true
  | [], i, n, h => by cases h
  | false :: bs, i, n, h => by
    rw [firstF, if_neg (by decide)] at h
    cases h
    refine ⟨by simp, by rw [dueL, if_neg (by decide)]; omega, ?_⟩
    rw [mono, if_neg (by decide), List.drop_zero, List.contains_cons]
    rfl
  | true :: bs, i, n, h => by
    rw [firstF, if_pos rfl] at h
    cases hf : firstF bs with
    | none => rw [hf] at h; cases h
    | some j =>
      rw [hf, Option.map_some, Option.some.injEq] at h
      subst h
      obtain ⟨h1, h2, h3⟩ := first_some (n := n + 1) hf
      refine ⟨by rw [List.contains_cons, h1]; rfl, by rw [dueL, if_pos rfl, h2]; omega, ?_⟩
      rw [mono, if_pos rfl, h3]; rfl
theorem first_none : ∀ {bs : List Bool} {n : Int}, firstF bs = none → bs.contains false = false ∧ dueL bs n = n + bs.length - 1 ∧ mono bs = true
  | [], n, h => ⟨rfl, by simp [dueL], rfl⟩
  | false :: bs, n, h => by rw [firstF, if_neg (by decide)] at h; cases h
  | true :: bs, n, h => by
    rw [firstF, if_pos rfl] at h
    cases hf : firstF bs with
    | some j => rw [hf] at h; cases h
    | none =>
      obtain ⟨h1, h2, h3⟩ := first_none (n := n + 1) hf
      refine ⟨by rw [List.contains_cons, h1]; rfl, by rw [dueL, if_pos rfl, h2, List.length_cons]; omega, ?_⟩
      rw [mono, if_pos rfl, h3]
def own (us : List TT) (j : Nat) : List Bool := us.map fun u => (told u)[j]?.getD false
theorem w_same_int {k : Nat} {i : Int} {Q : D → Env → Prop} {X : XC} {t} (h : Q (.bl true) [none, none]) : W (callN tab (k + 1) 11 [.int i, .int i]) Q X t := W_of (same_int k i) h
theorem w_same_bl {k : Nat} {i : Bool} {Q : D → Env → Prop} {X : XC} {t} (h : Q (.bl true) [none, none]) : W (callN tab (k + 1) 11 [.bl i, .bl i]) Q X t := W_of (same_bl k i) h
/-- each plan's way along a row -/
theorem all_paths {T : Tr} {us : List TT} {j : Nat} {row : Row} (hus : ∀ u ∈ us, Gd T u) (hr : (ends T [])[j]? = some row) (hne : us ≠ []) : ∃ (p : List Nat) (UM : List (TT × Nat)), rowD row = rowN p ∧ (∀ x ∈ UM, df 6 x.1 ∧ Pth x.1 p x.2) ∧ (∀ a b, (UM.map fun x => plD a b x.1) = us.map (plD a b)) ∧ (UM.map fun x => decide (0 < x.2)) = own us j := by
  have h1 : ∀ u ∈ us, ∃ (p : List Nat) (m : Nat), row = p.map Int.ofNat ∧ Pth u p m ∧ (told u)[j]? = some (decide (0 < m)) := by
    intro u hu
    have hg := hus u hu
    rw [← hg.1] at hr
    obtain ⟨p, m, e1, e2, e3⟩ := rows_p u [] j row hr
    exact ⟨p, m, by simpa using e1, e2, e3⟩
  obtain ⟨p, hp⟩ : ∃ p : List Nat, row = p.map Int.ofNat := by
    cases us with
    | nil => exact absurd rfl hne
    | cons u us =>
      obtain ⟨p, m, e1, _⟩ := h1 u (by simp)
      exact ⟨p, e1⟩
  have hinj : ∀ q : List Nat, p.map Int.ofNat = q.map Int.ofNat → p = q := by
    intro q
    intro e
    have := congrArg (List.map Int.toNat) e
    rw [List.map_map, List.map_map] at this
    simpa [Function.comp_def] using this
  refine ⟨p, ?_⟩
  suffices h : ∀ vs : List TT, (∀ u ∈ vs, u ∈ us) → ∃ UM : List (TT × Nat), (∀ x ∈ UM, df 6 x.1 ∧ Pth x.1 p x.2) ∧ (∀ a b, (UM.map fun x => plD a b x.1) = vs.map (plD a b)) ∧ (UM.map fun x => decide (0 < x.2)) = own vs j by
    obtain ⟨UM, h2, h3, h4⟩ := h us fun u hu => hu
    refine ⟨UM, ?_, h2, h3, h4⟩
    rw [hp]; unfold rowD rowN; rw [List.map_map]; rfl
  intro vs
  induction vs with
  | nil => intro _; exact ⟨[], by simp, fun _ _ => rfl, rfl⟩
  | cons u vs ih =>
    intro hv
    obtain ⟨UM, h2, h3, h4⟩ := ih fun x hx => hv x (by simp [hx])
    obtain ⟨q, m, e1, e2, e3⟩ := h1 u (hv u (by simp))
    rw [hp] at e1
    have := hinj q e1
    subst this
    refine ⟨(u, m) :: UM, ?_, ?_, ?_⟩
    · intro x hx
      rcases List.mem_cons.mp hx with rfl | hx
      · exact ⟨(hus u (hv u (by simp))).2, e2⟩
      · exact h2 x hx
    · intro a b; rw [List.map_cons, List.map_cons, h3]
    · rw [List.map_cons, h4]; unfold own; rw [List.map_cons, e3]; rfl
section
variable {scr arms na nb marks : D} {M : Nat} {T : Tr} {kd : Int}
theorem own_comp {p : List D} {us : List TT} {i : Nat} {o bb : Bool} {q2 q11 q12 q13 q14 q15 q16 q17 q21 q22 q23 : Option D} {Q : List D → Env → Prop} {X : XC} {t} (hi : i < nE T) (hus : ∀ u ∈ us, Gd T u)
    (h : ∀ q15, Q ((own us i).map .bl) [some scr, some (.lst true p), q2, some arms, some (.int (M : Nat)), some (enc T), some (.lst false ((ends T []).map rowD)), some (.tup [na, nb]), some (.int kd), some (.lst true (us.map (plD na nb))), some (.lst o (us.map tabD)), q11, q12, q13, q14, q15, q16, q17, some marks, some (.bl bb), some (.int (i : Nat)), q21, q22, q23]) :
    W (compL [15] (cF (sigOf tab) (callN tab 39) (Sf.E.sub (Sf.E.var 15) (Sf.E.var 20)) (Sf.T.nm 15) []) (us.map tabD) [some scr, some (.lst true p), q2, some arms, some (.int (M : Nat)), some (enc T), some (.lst false ((ends T []).map rowD)), some (.tup [na, nb]), some (.int kd), some (.lst true (us.map (plD na nb))), some (.lst o (us.map tabD)), q11, q12, q13, q14, q15, q16, q17, some marks, some (.bl bb), some (.int (i : Nat)), q21, q22, q23]) Q X t := by
  refine compW (fun xs r acc => ∃ (done rest : List TT) (q15 : Option D), us = done ++ rest ∧ xs = rest.map tabD ∧ acc = (own done i).map .bl ∧ r = [some scr, some (.lst true p), q2, some arms, some (.int (M : Nat)), some (enc T), some (.lst false ((ends T []).map rowD)), some (.tup [na, nb]), some (.int kd), some (.lst true (us.map (plD na nb))), some (.lst o (us.map tabD)), q11, q12, q13, q14, q15, q16, q17, some marks, some (.bl bb), some (.int (i : Nat)), q21, q22, q23]) ⟨[], us, q15, rfl, rfl, rfl, rfl⟩ ?_ ?_
  · rintro x xs r acc ⟨done, rest, q15, h1, h2, rfl, rfl⟩
    cases rest with
    | nil => cases h2
    | cons u rest =>
      rw [List.map_cons] at h2
      obtain ⟨rfl, rfl⟩ := List.cons.inj h2
      have hg := hus u (by rw [h1]; simp)
      obtain ⟨y, hy⟩ : ∃ y, (told u)[i]? = some y := ⟨_, List.getElem?_eq_getElem (by rw [gd_len hg]; exact hi)⟩
      have f1 : idx (tabD u) (.int (i : Nat)) = some (.bl y) := by
        show atq ((told u).map D.bl) (i : Int) = _
        rw [atq_nat, List.getElem?_map, hy]; rfl
      exists f1
      refine ⟨done ++ [u], rest, some (tabD u), by rw [h1]; simp, rfl, ?_, rfl⟩
      unfold own
      rw [List.map_append, List.map_append, List.map_cons, hy]; rfl
  · rintro r acc ⟨done, rest, q15, h1, h2, rfl, rfl⟩
    cases rest with
    | cons u rest => cases h2
    | nil =>
      rw [List.append_nil] at h1
      subst h1
      exact h q15
end
end K84
end
section
set_option maxRecDepth 100000
set_option linter.all false
namespace K84
open Sf
local macro_rules
  | `(tactic| trivial) => `(tactic| simp only [WO_some, WO_none, ↓WO_map, ↓WO_bind, WO_iteN, ↓W_ok, ↓W_bad, ↓W_lift, ↓W_bnd, W_iteBad, W_ite, ↓WS_nx, ↓WS_rt, ↓WS_bk, ↓WS_ct, ↓WS_bad, ↓WS_fin, WS_iteBad, WS_ite, W_ok, W_bad, W_lift, W_bnd,
    ↓w_z, w_pS, w_pN, ↓w_varV, ↓w_var, ↓w_cint, ↓w_cbl, ↓w_cnon, ↓w_cstr, ↓w_bin, ↓w_neg, ↓w_cmp, ↓w_chn, ↓w_not, ↓w_and, ↓w_or, ↓w_one, ↓w_ifx, ↓w_tup, ↓w_lst, ↓w_dic0, ↓w_subV, ↓w_subN, ↓w_slcV, ↓w_slcN, ↓w_call, ↓w_bi, ↓w_bi2, ↓w_isi, ↓w_comp, ↓w_anyA, ↓w_pop0, ↓w_pop1, ↓w_index, ↓w_lrng, ↓w_rng1, ↓w_rng2, ↓w_rng3, ↓w_enm, ↓w_zip, ↓w_iV, ↓w_i_sub, ↓w_i_slc, ↓w_i_call, ↓w_i_tup, ↓w_i_comp,
    w_evs0, w_evs, w_evz0, w_evz, w_evc0, w_evc, ↓w_evo0, w_evo0, w_evo, ↓w_tV, ↓w_tcbl, ↓w_tnot, ↓w_tand, ↓w_tor, ↓w_tone, ↓w_t_cmp, ↓w_t_chn, ↓w_t_call, ↓w_t_sub, ↓w_t_isi, ↓w_t_bi, ↓w_t_bin, w_evts0, w_evts,
    s_nil, s_cons, o_none, o_some, ca_none, ca_some, pm_nil, pm_none, pl_nil, pl_cons, gb_none, gb_some, ↓w_has, isL_some, ↓w_hasL, ↓x_asg, ↓x_asgT, ↓x_par, ↓x_aug, setD_L, ↓x_setx, appD_L, ↓x_app, ↓x_expr, ↓x_ret, ↓x_retN, ↓x_ite, ↓x_whl, ↓x_for, ↓x_brk, ↓x_cnt, ↓x_pass, ↓WS_nil, ↓WS_cons, ↓WS_fF, ↓W_cF,
    bt_nm, bt_tp, pu_nil, pu_cons, pk_z, pk_s, pt_z, pt_s, oz_nil, oz_cons, zq_none, zq_some, wp_nil, wp_cons, bk_nil, bk_cons, fe_none, fe_0, fe_1, jn_some, mv_L, mv_D, mv_non, mv_bl, mv_int, mv_str, mv_tup, mv_F, mv_scr, mv_z,
    q_End_end, q_End_look, q_End_block, q_End_draw, q_End_tell, q_End_choose, q_Look_end, q_Look_look, q_Look_block, q_Look_draw, q_Look_tell, q_Look_choose, q_Block_end, q_Block_look, q_Block_block, q_Block_draw, q_Block_tell, q_Block_choose, q_Draw_end, q_Draw_look, q_Draw_block, q_Draw_draw, q_Draw_tell, q_Draw_choose, q_Tell_end, q_Tell_look, q_Tell_block, q_Tell_draw, q_Tell_tell, q_Tell_choose, cut_2, cut_t2, cut_t3,
    slot_var, slot_bad, slot_cint, slot_cbl, slot_cnon, slot_cstr, slot_bin, slot_neg, slot_cmp, slot_chn, slot_not, slot_and, slot_or, slot_ifx, slot_one, slot_tup, slot_lst, slot_sub, slot_slc, slot_call, slot_bi, slot_bi2, slot_isi, slot_comp, slot_lrng, slot_pop0, slot_pop1, slot_index, simple_var, simple_cint, simple_cbl, simple_cnon, simple_cstr, simple_bin, simple_neg, simple_sub, simple_slc, simple_call, simple_bi, simple_bi2, simple_isi, simple_lst, simple_tup, simple_comp, popD, popI, augop, iteq, itemsq, itemsp, List.getElem?_cons_zero, List.getElem?_cons_succ, List.set_cons_zero, List.set_cons_succ, List.replicate_succ, List.replicate_zero, List.map_cons, List.map_nil, List.cons_append, List.nil_append, List.length_cons, List.length_nil,
    Option.bind_some, Option.bind_none, Option.map_some, Option.map_none, Option.join_some, Option.toList_some, Option.toList_none, id_eq,
    frz_non, frz_bl, frz_int, frz_str, frz_tup, frz_lst, frz_dic, frz_scr, isZ_non, isZ_bl, isZ_int, isZ_str, isZ_tup, isZ_lstT, isZ_lstF, isZ_scr, tru_non, tru_bl, tru_int, tru_tup, tru_lst, asInt_int,
    c_eqI, c_neI, c_eqS, c_eqT, c_ltI, c_leI, c_gtI, c_geI, b_addI, b_subI, b_mulI, b_fdivI, b_modI, b_addL, b_addT, b_addS, b_mulL, sl_L, sl_T, bi_lenT, bi_lenL, bi_lenS, bi_absI, bi_intI, bi_listT, bi_listL, bi_listS, bi_tupT, bi_tupL, idx_T, idx_L, atq_0, atq_1, atq_2, atq_3, ixq_0, ixq_1, ixq_2,
    Nat.reduceSub, Nat.reduceAdd, Nat.reduceEqDiff, Int.reduceNeg, Int.reduceAdd, Int.reduceSub, Int.reduceMul, Int.reduceLT, Int.reduceLE, Option.some.injEq, Nat.reduceLeDiff, Nat.zero_add, List.isEmpty_cons, List.isEmpty_nil,
    if_true, if_false, ite_true, ite_false, ↓reduceIte, decide_eq_true_eq, beq_iff_eq, bne_iff_ne, ne_eq, Bool.not_eq_true', Bool.not_eq_eq_eq_not, Bool.and_true, Bool.true_and, Bool.false_and, Bool.not_true, Bool.not_false, Bool.false_eq_true, reduceCtorEq, and_true, true_and, and_self, bltg, isiq,
    f_is_number, f_nexts_of, f_walk, f_lower, f_hopes, f_follows, f_nested, f_law_pool, f_law_draw, f_law_pick, f_law_shuffled, f_law_same, f_law_fraction, f_law_chance, f_law_tree, f_law_nodes, f_law_plan, f_law_names, f_law_bare, f_law_ends, f_law_with_tells, f_law_marks, f_law,
    sig_0, sig_1, sig_2, sig_3, sig_4, sig_5, sig_6, sig_7, sig_8, sig_9, sig_10, sig_11, sig_12, sig_13, sig_14, sig_15, sig_16, sig_17, sig_18, sig_19, sig_20, sig_21, sig_22])
  | `(tactic| exists $es:term,*) => `(tactic| simp only [WO_some, WO_none, ↓WO_map, ↓WO_bind, WO_iteN, ↓W_ok, ↓W_bad, ↓W_lift, ↓W_bnd, W_iteBad, W_ite, ↓WS_nx, ↓WS_rt, ↓WS_bk, ↓WS_ct, ↓WS_bad, ↓WS_fin, WS_iteBad, WS_ite, W_ok, W_bad, W_lift, W_bnd,
    ↓w_z, w_pS, w_pN, ↓w_varV, ↓w_var, ↓w_cint, ↓w_cbl, ↓w_cnon, ↓w_cstr, ↓w_bin, ↓w_neg, ↓w_cmp, ↓w_chn, ↓w_not, ↓w_and, ↓w_or, ↓w_one, ↓w_ifx, ↓w_tup, ↓w_lst, ↓w_dic0, ↓w_subV, ↓w_subN, ↓w_slcV, ↓w_slcN, ↓w_call, ↓w_bi, ↓w_bi2, ↓w_isi, ↓w_comp, ↓w_anyA, ↓w_pop0, ↓w_pop1, ↓w_index, ↓w_lrng, ↓w_rng1, ↓w_rng2, ↓w_rng3, ↓w_enm, ↓w_zip, ↓w_iV, ↓w_i_sub, ↓w_i_slc, ↓w_i_call, ↓w_i_tup, ↓w_i_comp,
    w_evs0, w_evs, w_evz0, w_evz, w_evc0, w_evc, ↓w_evo0, w_evo0, w_evo, ↓w_tV, ↓w_tcbl, ↓w_tnot, ↓w_tand, ↓w_tor, ↓w_tone, ↓w_t_cmp, ↓w_t_chn, ↓w_t_call, ↓w_t_sub, ↓w_t_isi, ↓w_t_bi, ↓w_t_bin, w_evts0, w_evts,
    s_nil, s_cons, o_none, o_some, ca_none, ca_some, pm_nil, pm_none, pl_nil, pl_cons, gb_none, gb_some, ↓w_has, isL_some, ↓w_hasL, ↓x_asg, ↓x_asgT, ↓x_par, ↓x_aug, setD_L, ↓x_setx, appD_L, ↓x_app, ↓x_expr, ↓x_ret, ↓x_retN, ↓x_ite, ↓x_whl, ↓x_for, ↓x_brk, ↓x_cnt, ↓x_pass, ↓WS_nil, ↓WS_cons, ↓WS_fF, ↓W_cF,
    bt_nm, bt_tp, pu_nil, pu_cons, pk_z, pk_s, pt_z, pt_s, oz_nil, oz_cons, zq_none, zq_some, wp_nil, wp_cons, bk_nil, bk_cons, fe_none, fe_0, fe_1, jn_some, mv_L, mv_D, mv_non, mv_bl, mv_int, mv_str, mv_tup, mv_F, mv_scr, mv_z,
    q_End_end, q_End_look, q_End_block, q_End_draw, q_End_tell, q_End_choose, q_Look_end, q_Look_look, q_Look_block, q_Look_draw, q_Look_tell, q_Look_choose, q_Block_end, q_Block_look, q_Block_block, q_Block_draw, q_Block_tell, q_Block_choose, q_Draw_end, q_Draw_look, q_Draw_block, q_Draw_draw, q_Draw_tell, q_Draw_choose, q_Tell_end, q_Tell_look, q_Tell_block, q_Tell_draw, q_Tell_tell, q_Tell_choose, cut_2, cut_t2, cut_t3,
    slot_var, slot_bad, slot_cint, slot_cbl, slot_cnon, slot_cstr, slot_bin, slot_neg, slot_cmp, slot_chn, slot_not, slot_and, slot_or, slot_ifx, slot_one, slot_tup, slot_lst, slot_sub, slot_slc, slot_call, slot_bi, slot_bi2, slot_isi, slot_comp, slot_lrng, slot_pop0, slot_pop1, slot_index, simple_var, simple_cint, simple_cbl, simple_cnon, simple_cstr, simple_bin, simple_neg, simple_sub, simple_slc, simple_call, simple_bi, simple_bi2, simple_isi, simple_lst, simple_tup, simple_comp, popD, popI, augop, iteq, itemsq, itemsp, List.getElem?_cons_zero, List.getElem?_cons_succ, List.set_cons_zero, List.set_cons_succ, List.replicate_succ, List.replicate_zero, List.map_cons, List.map_nil, List.cons_append, List.nil_append, List.length_cons, List.length_nil,
    Option.bind_some, Option.bind_none, Option.map_some, Option.map_none, Option.join_some, Option.toList_some, Option.toList_none, id_eq,
    frz_non, frz_bl, frz_int, frz_str, frz_tup, frz_lst, frz_dic, frz_scr, isZ_non, isZ_bl, isZ_int, isZ_str, isZ_tup, isZ_lstT, isZ_lstF, isZ_scr, tru_non, tru_bl, tru_int, tru_tup, tru_lst, asInt_int,
    c_eqI, c_neI, c_eqS, c_eqT, c_ltI, c_leI, c_gtI, c_geI, b_addI, b_subI, b_mulI, b_fdivI, b_modI, b_addL, b_addT, b_addS, b_mulL, sl_L, sl_T, bi_lenT, bi_lenL, bi_lenS, bi_absI, bi_intI, bi_listT, bi_listL, bi_listS, bi_tupT, bi_tupL, idx_T, idx_L, atq_0, atq_1, atq_2, atq_3, ixq_0, ixq_1, ixq_2,
    Nat.reduceSub, Nat.reduceAdd, Nat.reduceEqDiff, Int.reduceNeg, Int.reduceAdd, Int.reduceSub, Int.reduceMul, Int.reduceLT, Int.reduceLE, Option.some.injEq, Nat.reduceLeDiff, Nat.zero_add, List.isEmpty_cons, List.isEmpty_nil,
    if_true, if_false, ite_true, ite_false, ↓reduceIte, decide_eq_true_eq, beq_iff_eq, bne_iff_ne, ne_eq, Bool.not_eq_true', Bool.not_eq_eq_eq_not, Bool.and_true, Bool.true_and, Bool.false_and, Bool.not_true, Bool.not_false, Bool.false_eq_true, reduceCtorEq, and_true, true_and, and_self, bltg, isiq,
    f_is_number, f_nexts_of, f_walk, f_lower, f_hopes, f_follows, f_nested, f_law_pool, f_law_draw, f_law_pick, f_law_shuffled, f_law_same, f_law_fraction, f_law_chance, f_law_tree, f_law_nodes, f_law_plan, f_law_names, f_law_bare, f_law_ends, f_law_with_tells, f_law_marks, f_law,
    sig_0, sig_1, sig_2, sig_3, sig_4, sig_5, sig_6, sig_7, sig_8, sig_9, sig_10, sig_11, sig_12, sig_13, sig_14, sig_15, sig_16, sig_17, sig_18, sig_19, sig_20, sig_21, sig_22, $[$es:term],*])
theorem rng_nE {n : Nat} (h : n < 2000) : rng2q 0 (n : Int) = some (rngq 0 1 n) := by
  unfold rng2q
  have e1 : small 0 = true := by decide
  have e4 : small (n : Int) = true := by
    unfold small
    have h1 : -(2 ^ 40) < (n : Int) := by omega
    have h2 : (n : Int) < 2 ^ 40 := by omega
    rw [decide_eq_true h1, decide_eq_true h2]; rfl
  have e5 : ((n : Int) - 0).toNat = n := by omega
  have eS : 5000 < SZ := by decide
  rw [e1, e4, e5, decide_eq_true (show n ≤ SZ by omega)]
  rfl
theorem own_len (us : List TT) (j : Nat) : (own us j).length = us.length := by unfold own; rw [List.length_map]
section
variable {scr arms na nb marks : D} {M : Nat} {T : Tr} {kd : Int}
theorem lj12 {p : List D} {us : List TT} {i : Nat} {o bb : Bool} {q2 q11 q12 q13 q14 q15 q16 q17 q22 q23 : Option D} {N : Env → Prop} {R : D → Env → Prop} {B K : Env → Prop} {X : XC} {t} (hM : us.length = M)
    (h : ∀ o2, WS (exs (sigOf tab) (callN tab 39) [lj_3] [some scr, some (.lst true p), q2, some arms, some (.int (M : Nat)), some (enc T), some (.lst false ((ends T []).map rowD)), some (.tup [na, nb]), some (.int kd), some (.lst true (us.map (plD na nb))), some (.lst o (us.map tabD)), q11, q12, q13, q14, q15, q16, q17, some marks, some (.bl (bb && mono (own us i))), some (.int (i : Nat)), some (.lst o2 ((own us i).map .bl)), some (.int (dueL (own us i) 0)), q23]) N R B K X ⟨⟩) :
    WS (exs (sigOf tab) (callN tab 39) [lj_1, lj_2, lj_3] [some scr, some (.lst true p), q2, some arms, some (.int (M : Nat)), some (enc T), some (.lst false ((ends T []).map rowD)), some (.tup [na, nb]), some (.int kd), some (.lst true (us.map (plD na nb))), some (.lst o (us.map tabD)), q11, q12, q13, q14, q15, q16, q17, some marks, some (.bl bb), some (.int (i : Nat)), some (.lst true ((own us i).map .bl)), q22, q23]) N R B K X t := by
  unfold lj_1 lj_2
  cases hf : firstF (own us i) with
  | none =>
    obtain ⟨c1, c2, c3⟩ := first_none (n := 0) hf
    have c4 : (M : Int) - 1 = dueL (own us i) 0 := by rw [c2, own_len, hM]; omega
    have c5 : (M : Int) - 1 + 1 = (M : Int) := by omega
    have c6 : (own us i).drop M = [] := List.drop_of_length_le (by rw [own_len]; omega)
    have c7 : ((own us i).map D.bl).drop M = ([] : List Bool).map D.bl := by rw [← List.map_drop, c6]
    have c8 : cmpop .notin (.bl true) (.lst false []) = some true := notin_bl true false []
    rw [c3, ← c4] at h
    have h := h true
    rw [WS_cons] at h
    cases bb with
    | true =>
      exists isin_bl, c1, c5, cut_drop, c7, notin_bl, c8
      exact h
    | false =>
      exists isin_bl, c1, c5, cut_drop, c7, notin_bl, c8
      exact h
  | some z =>
    obtain ⟨c1, c2, c3⟩ := first_some (n := 0) hf
    have c4 : (z : Int) - 1 = dueL (own us i) 0 := by rw [c2]; omega
    have c5 : (z : Int) - 1 + 1 = (z : Int) := by omega
    have c7 : ((own us i).map D.bl).drop z = ((own us i).drop z).map D.bl := by rw [← List.map_drop]
    have c9 : (D.bl false).flat = true := rfl
    have c10 := idxD (own us i)
    rw [hf] at c10
    rw [c3, ← c4] at h
    have h := h false
    rw [WS_cons] at h
    cases bb with
    | true =>
      exists isin_bl, c1, c5, cut_drop, c7, notin_bl, c9, c10, bl_flat
      exact h
    | false =>
      exists isin_bl, c1, c5, cut_drop, c7, notin_bl, c9, c10, bl_flat
      exact h
theorem lw8 {p : List D} {us : List TT} {q2 q11 q12 q13 q14 q15 q16 q17 q20 q21 q22 q23 : Option D} {N : Env → Prop} {R : D → Env → Prop} {B K : Env → Prop} {X : XC} {t} (hnE : nE T < 2000) (hn0 : 0 < nE T) (hM : us.length = M) (hM1 : 1 ≤ M) (hM2 : M < 100) (hus : ∀ u ∈ us, Gd T u) (hz15 : zq q15 = true) (hmk : marks.isZ = true)
    (h : ∀ (o : Bool) (q20 q21 : Option D), zq q20 = true → N [some scr, some (.lst true p), q2, some arms, some (.int (M : Nat)), some (enc T), some (.lst false ((ends T []).map rowD)), some (.tup [na, nb]), some (.int kd), some (.lst true (us.map (plD na nb))), some (.lst o (us.map tabD)), q11, q12, q13, q14, q15, q16, q17, some marks, some (.bl (adj us)), q20, q21, some (.int (dueL (own us (nE T - 1)) 0)), q23]) :
    WS (ex (sigOf tab) (callN tab 39) lw_8 [some scr, some (.lst true p), q2, some arms, some (.int (M : Nat)), some (enc T), some (.lst false ((ends T []).map rowD)), some (.tup [na, nb]), some (.int kd), some (.lst true (us.map (plD na nb))), some (.lst true (us.map tabD)), q11, q12, q13, q14, q15, q16, q17, some marks, some (.bl true), q20, q21, q22, q23]) N R B K X t := by
  have hne : us ≠ [] := by intro e; rw [e] at hM; simp at hM; omega
  have hmf := frz_isZ marks hmk
  have e1 : rng2q 0 (((ends T []).map rowD).length : Int) = some (rngq 0 1 (nE T)) := by
    rw [List.length_map, ends_len]; exact rng_nE hnE
  rw [lj_is]
  exists e1
  refine forW (fun xs r => ∃ (i jj : Nat) (o : Bool) (q20 q21 q22 : Option D), i + jj = nE T ∧ xs = rngq (i : Int) 1 jj ∧ (0 < i → zq q20 = true ∧ q22 = some (.int (dueL (own us (i - 1)) 0))) ∧ r = [some scr, some (.lst true p), q2, some arms, some (.int (M : Nat)), some (enc T), some (.lst false ((ends T []).map rowD)), some (.tup [na, nb]), some (.int kd), some (.lst true (us.map (plD na nb))), some (.lst o (us.map tabD)), q11, q12, q13, q14, q15, q16, q17, some marks, some (.bl ((List.range i).all fun j => mono (own us j))), q20, q21, q22, q23]) ⟨0, nE T, true, q20, q21, q22, by omega, rfl, by intro h; omega, rfl⟩ ?_ ?_
  · rintro x xs r ⟨i, jj, o, q20, q21, q22, h1, h2, h3, rfl⟩
    cases jj with
    | zero => cases h2
    | succ jj =>
      rw [rngq_succ] at h2
      obtain ⟨rfl, rfl⟩ := List.cons.inj h2
      have hrng : ((List.range (i + 1)).all fun j => mono (own us j)) = (((List.range i).all fun j => mono (own us j)) && mono (own us i)) := by
        rw [List.range_succ, List.all_append, List.all_cons, List.all_nil, Bool.and_true]
      obtain ⟨row, hrow⟩ : ∃ row, (ends T [])[i]? = some row := ⟨_, List.getElem?_eq_getElem (by rw [ends_len]; omega)⟩
      have f6 : atq ((ends T []).map rowD) (i : Int) = some (rowD row) := by rw [atq_nat, List.getElem?_map, hrow]; rfl
      obtain ⟨p0, UM, g1, g2, g3, g4⟩ := all_paths hus hrow hne
      -- behind the row's due
      have hend : ∀ (o o2 : Bool), WS (exs (sigOf tab) (callN tab 39) [lj_3] [some scr, some (.lst true p), q2, some arms, some (.int (M : Nat)), some (enc T), some (.lst false ((ends T []).map rowD)), some (.tup [na, nb]), some (.int kd), some (.lst true (us.map (plD na nb))), some (.lst o (us.map tabD)), q11, q12, q13, q14, q15, q16, q17, some marks, some (.bl ((List.range (i + 1)).all fun j => mono (own us j))), some (.int (i : Nat)), some (.lst o2 ((own us i).map .bl)), some (.int (dueL (own us i) 0)), q23]) (fun r => ∃ (i' jj' : Nat) (o : Bool) (q20 q21 q22 : Option D), i' + jj' = nE T ∧ rngq ((i : Int) + 1) 1 jj = rngq (i' : Int) 1 jj' ∧ (0 < i' → zq q20 = true ∧ q22 = some (.int (dueL (own us (i' - 1)) 0))) ∧ r = [some scr, some (.lst true p), q2, some arms, some (.int (M : Nat)), some (enc T), some (.lst false ((ends T []).map rowD)), some (.tup [na, nb]), some (.int kd), some (.lst true (us.map (plD na nb))), some (.lst o (us.map tabD)), q11, q12, q13, q14, q15, q16, q17, some marks, some (.bl ((List.range i').all fun j => mono (own us j))), q20, q21, q22, q23]) R N (fun r => ∃ (i' jj' : Nat) (o : Bool) (q20 q21 q22 : Option D), i' + jj' = nE T ∧ rngq ((i : Int) + 1) 1 jj = rngq (i' : Int) 1 jj' ∧ (0 < i' → zq q20 = true ∧ q22 = some (.int (dueL (own us (i' - 1)) 0))) ∧ r = [some scr, some (.lst true p), q2, some arms, some (.int (M : Nat)), some (enc T), some (.lst false ((ends T []).map rowD)), some (.tup [na, nb]), some (.int kd), some (.lst true (us.map (plD na nb))), some (.lst o (us.map tabD)), q11, q12, q13, q14, q15, q16, q17, some marks, some (.bl ((List.range i').all fun j => mono (own us j))), q20, q21, q22, q23]) X ⟨⟩ := by
        intro o o2
        have hnx : ∃ (i' jj' : Nat) (o' : Bool) (q20 q21 q22 : Option D), i' + jj' = nE T ∧ rngq ((i : Int) + 1) 1 jj = rngq (i' : Int) 1 jj' ∧ (0 < i' → zq q20 = true ∧ q22 = some (.int (dueL (own us (i' - 1)) 0))) ∧ [some scr, some (.lst true p), q2, some arms, some (.int (M : Nat)), some (enc T), some (.lst false ((ends T []).map rowD)), some (.tup [na, nb]), some (.int kd), some (.lst true (us.map (plD na nb))), some (.lst o (us.map tabD)), q11, q12, q13, q14, q15, q16, q17, some marks, some (.bl ((List.range (i + 1)).all fun j => mono (own us j))), some (.int (i : Nat)), some (.lst o2 ((own us i).map .bl)), some (.int (dueL (own us i) 0)), q23] = [some scr, some (.lst true p), q2, some arms, some (.int (M : Nat)), some (enc T), some (.lst false ((ends T []).map rowD)), some (.tup [na, nb]), some (.int kd), some (.lst true (us.map (plD na nb))), some (.lst o' (us.map tabD)), q11, q12, q13, q14, q15, q16, q17, some marks, some (.bl ((List.range i').all fun j => mono (own us j))), q20, q21, q22, q23] := ⟨i + 1, jj, o, some (.int (i : Nat)), some (.lst o2 ((own us i).map .bl)), some (.int (dueL (own us i) 0)), by omega, rfl, fun _ => ⟨rfl, rfl⟩, rfl⟩
        unfold lj_3
        have hf1 : (rowD row).frz = rowD row := rfl
        exists hmk, hmf, f6, hf1
        rw [g1, ← g3]
        refine w_lower (k := 36) (n := 6) (by omega) g2 ?_
        rw [g4, g3]
        trivial
        refine w_same_int ?_
        trivial
        exact hnx
      simp only [↓WS_fF, bt_nm, WO_some, ↓WS_cons]
      unfold lj_0
      have e7 : zq q15 = true := hz15
      cases o <;>
      · exists e7
        refine own_comp (by omega) hus fun q15' => ?_
        trivial
        rw [← WS_cons (t := ⟨⟩)]
        refine lj12 hM fun o2 => ?_
        rw [← hrng]
        exact hend false o2
  · rintro r ⟨i, jj, o, q20, q21, q22, h1, h2, h3, rfl⟩
    cases jj with
    | succ jj => rw [rngq_succ] at h2; cases h2
    | zero =>
      have hi : i = nE T := by omega
      subst hi
      obtain ⟨h4, h5⟩ := h3 hn0
      rw [h5]
      have : ((List.range (nE T)).all fun j => mono (own us j)) = adj us := (adj_rows us fun u hu => gd_len (hus u hu)).symm
      rw [this]
      exact h o q20 q21 h4
end
end K84
end
section
set_option maxRecDepth 100000
set_option linter.all false
namespace K84
open Sf
local macro_rules
  | `(tactic| trivial) => `(tactic| simp only [WO_some, WO_none, ↓WO_map, ↓WO_bind, WO_iteN, ↓W_ok, ↓W_bad, ↓W_lift, ↓W_bnd, W_iteBad, W_ite, ↓WS_nx, ↓WS_rt, ↓WS_bk, ↓WS_ct, ↓WS_bad, ↓WS_fin, WS_iteBad, WS_ite, W_ok, W_bad, W_lift, W_bnd,
    ↓w_z, w_pS, w_pN, ↓w_varV, ↓w_var, ↓w_cint, ↓w_cbl, ↓w_cnon, ↓w_cstr, ↓w_bin, ↓w_neg, ↓w_cmp, ↓w_chn, ↓w_not, ↓w_and, ↓w_or, ↓w_one, ↓w_ifx, ↓w_tup, ↓w_lst, ↓w_dic0, ↓w_subV, ↓w_subN, ↓w_slcV, ↓w_slcN, ↓w_call, ↓w_bi, ↓w_bi2, ↓w_isi, ↓w_comp, ↓w_anyA, ↓w_pop0, ↓w_pop1, ↓w_index, ↓w_lrng, ↓w_rng1, ↓w_rng2, ↓w_rng3, ↓w_enm, ↓w_zip, ↓w_iV, ↓w_i_sub, ↓w_i_slc, ↓w_i_call, ↓w_i_tup, ↓w_i_comp,
    w_evs0, w_evs, w_evz0, w_evz, w_evc0, w_evc, ↓w_evo0, w_evo0, w_evo, ↓w_tV, ↓w_tcbl, ↓w_tnot, ↓w_tand, ↓w_tor, ↓w_tone, ↓w_t_cmp, ↓w_t_chn, ↓w_t_call, ↓w_t_sub, ↓w_t_isi, ↓w_t_bi, ↓w_t_bin, w_evts0, w_evts,
    s_nil, s_cons, o_none, o_some, ca_none, ca_some, pm_nil, pm_none, pl_nil, pl_cons, gb_none, gb_some, ↓w_has, isL_some, ↓w_hasL, ↓x_asg, ↓x_asgT, ↓x_par, ↓x_aug, setD_L, ↓x_setx, appD_L, ↓x_app, ↓x_expr, ↓x_ret, ↓x_retN, ↓x_ite, ↓x_whl, ↓x_for, ↓x_brk, ↓x_cnt, ↓x_pass, ↓WS_nil, ↓WS_cons, ↓WS_fF, ↓W_cF,
    bt_nm, bt_tp, pu_nil, pu_cons, pk_z, pk_s, pt_z, pt_s, oz_nil, oz_cons, zq_none, zq_some, wp_nil, wp_cons, bk_nil, bk_cons, fe_none, fe_0, fe_1, jn_some, mv_L, mv_D, mv_non, mv_bl, mv_int, mv_str, mv_tup, mv_F, mv_scr, mv_z,
    q_End_end, q_End_look, q_End_block, q_End_draw, q_End_tell, q_End_choose, q_Look_end, q_Look_look, q_Look_block, q_Look_draw, q_Look_tell, q_Look_choose, q_Block_end, q_Block_look, q_Block_block, q_Block_draw, q_Block_tell, q_Block_choose, q_Draw_end, q_Draw_look, q_Draw_block, q_Draw_draw, q_Draw_tell, q_Draw_choose, q_Tell_end, q_Tell_look, q_Tell_block, q_Tell_draw, q_Tell_tell, q_Tell_choose, cut_2, cut_t2, cut_t3,
    slot_var, slot_bad, slot_cint, slot_cbl, slot_cnon, slot_cstr, slot_bin, slot_neg, slot_cmp, slot_chn, slot_not, slot_and, slot_or, slot_ifx, slot_one, slot_tup, slot_lst, slot_sub, slot_slc, slot_call, slot_bi, slot_bi2, slot_isi, slot_comp, slot_lrng, slot_pop0, slot_pop1, slot_index, simple_var, simple_cint, simple_cbl, simple_cnon, simple_cstr, simple_bin, simple_neg, simple_sub, simple_slc, simple_call, simple_bi, simple_bi2, simple_isi, simple_lst, simple_tup, simple_comp, popD, popI, augop, iteq, itemsq, itemsp, List.getElem?_cons_zero, List.getElem?_cons_succ, List.set_cons_zero, List.set_cons_succ, List.replicate_succ, List.replicate_zero, List.map_cons, List.map_nil, List.cons_append, List.nil_append, List.length_cons, List.length_nil,
    Option.bind_some, Option.bind_none, Option.map_some, Option.map_none, Option.join_some, Option.toList_some, Option.toList_none, id_eq,
    frz_non, frz_bl, frz_int, frz_str, frz_tup, frz_lst, frz_dic, frz_scr, isZ_non, isZ_bl, isZ_int, isZ_str, isZ_tup, isZ_lstT, isZ_lstF, isZ_scr, tru_non, tru_bl, tru_int, tru_tup, tru_lst, asInt_int,
    c_eqI, c_neI, c_eqS, c_eqT, c_ltI, c_leI, c_gtI, c_geI, b_addI, b_subI, b_mulI, b_fdivI, b_modI, b_addL, b_addT, b_addS, b_mulL, sl_L, sl_T, bi_lenT, bi_lenL, bi_lenS, bi_absI, bi_intI, bi_listT, bi_listL, bi_listS, bi_tupT, bi_tupL, idx_T, idx_L, atq_0, atq_1, atq_2, atq_3, ixq_0, ixq_1, ixq_2,
    Nat.reduceSub, Nat.reduceAdd, Nat.reduceEqDiff, Int.reduceNeg, Int.reduceAdd, Int.reduceSub, Int.reduceMul, Int.reduceLT, Int.reduceLE, Option.some.injEq, Nat.reduceLeDiff, Nat.zero_add, List.isEmpty_cons, List.isEmpty_nil,
    if_true, if_false, ite_true, ite_false, ↓reduceIte, decide_eq_true_eq, beq_iff_eq, bne_iff_ne, ne_eq, Bool.not_eq_true', Bool.not_eq_eq_eq_not, Bool.and_true, Bool.true_and, Bool.false_and, Bool.not_true, Bool.not_false, Bool.false_eq_true, reduceCtorEq, and_true, true_and, and_self, bltg, isiq,
    f_is_number, f_nexts_of, f_walk, f_lower, f_hopes, f_follows, f_nested, f_law_pool, f_law_draw, f_law_pick, f_law_shuffled, f_law_same, f_law_fraction, f_law_chance, f_law_tree, f_law_nodes, f_law_plan, f_law_names, f_law_bare, f_law_ends, f_law_with_tells, f_law_marks, f_law,
    sig_0, sig_1, sig_2, sig_3, sig_4, sig_5, sig_6, sig_7, sig_8, sig_9, sig_10, sig_11, sig_12, sig_13, sig_14, sig_15, sig_16, sig_17, sig_18, sig_19, sig_20, sig_21, sig_22])
  | `(tactic| exists $es:term,*) => `(tactic| simp only [WO_some, WO_none, ↓WO_map, ↓WO_bind, WO_iteN, ↓W_ok, ↓W_bad, ↓W_lift, ↓W_bnd, W_iteBad, W_ite, ↓WS_nx, ↓WS_rt, ↓WS_bk, ↓WS_ct, ↓WS_bad, ↓WS_fin, WS_iteBad, WS_ite, W_ok, W_bad, W_lift, W_bnd,
    ↓w_z, w_pS, w_pN, ↓w_varV, ↓w_var, ↓w_cint, ↓w_cbl, ↓w_cnon, ↓w_cstr, ↓w_bin, ↓w_neg, ↓w_cmp, ↓w_chn, ↓w_not, ↓w_and, ↓w_or, ↓w_one, ↓w_ifx, ↓w_tup, ↓w_lst, ↓w_dic0, ↓w_subV, ↓w_subN, ↓w_slcV, ↓w_slcN, ↓w_call, ↓w_bi, ↓w_bi2, ↓w_isi, ↓w_comp, ↓w_anyA, ↓w_pop0, ↓w_pop1, ↓w_index, ↓w_lrng, ↓w_rng1, ↓w_rng2, ↓w_rng3, ↓w_enm, ↓w_zip, ↓w_iV, ↓w_i_sub, ↓w_i_slc, ↓w_i_call, ↓w_i_tup, ↓w_i_comp,
    w_evs0, w_evs, w_evz0, w_evz, w_evc0, w_evc, ↓w_evo0, w_evo0, w_evo, ↓w_tV, ↓w_tcbl, ↓w_tnot, ↓w_tand, ↓w_tor, ↓w_tone, ↓w_t_cmp, ↓w_t_chn, ↓w_t_call, ↓w_t_sub, ↓w_t_isi, ↓w_t_bi, ↓w_t_bin, w_evts0, w_evts,
    s_nil, s_cons, o_none, o_some, ca_none, ca_some, pm_nil, pm_none, pl_nil, pl_cons, gb_none, gb_some, ↓w_has, isL_some, ↓w_hasL, ↓x_asg, ↓x_asgT, ↓x_par, ↓x_aug, setD_L, ↓x_setx, appD_L, ↓x_app, ↓x_expr, ↓x_ret, ↓x_retN, ↓x_ite, ↓x_whl, ↓x_for, ↓x_brk, ↓x_cnt, ↓x_pass, ↓WS_nil, ↓WS_cons, ↓WS_fF, ↓W_cF,
    bt_nm, bt_tp, pu_nil, pu_cons, pk_z, pk_s, pt_z, pt_s, oz_nil, oz_cons, zq_none, zq_some, wp_nil, wp_cons, bk_nil, bk_cons, fe_none, fe_0, fe_1, jn_some, mv_L, mv_D, mv_non, mv_bl, mv_int, mv_str, mv_tup, mv_F, mv_scr, mv_z,
    q_End_end, q_End_look, q_End_block, q_End_draw, q_End_tell, q_End_choose, q_Look_end, q_Look_look, q_Look_block, q_Look_draw, q_Look_tell, q_Look_choose, q_Block_end, q_Block_look, q_Block_block, q_Block_draw, q_Block_tell, q_Block_choose, q_Draw_end, q_Draw_look, q_Draw_block, q_Draw_draw, q_Draw_tell, q_Draw_choose, q_Tell_end, q_Tell_look, q_Tell_block, q_Tell_draw, q_Tell_tell, q_Tell_choose, cut_2, cut_t2, cut_t3,
    slot_var, slot_bad, slot_cint, slot_cbl, slot_cnon, slot_cstr, slot_bin, slot_neg, slot_cmp, slot_chn, slot_not, slot_and, slot_or, slot_ifx, slot_one, slot_tup, slot_lst, slot_sub, slot_slc, slot_call, slot_bi, slot_bi2, slot_isi, slot_comp, slot_lrng, slot_pop0, slot_pop1, slot_index, simple_var, simple_cint, simple_cbl, simple_cnon, simple_cstr, simple_bin, simple_neg, simple_sub, simple_slc, simple_call, simple_bi, simple_bi2, simple_isi, simple_lst, simple_tup, simple_comp, popD, popI, augop, iteq, itemsq, itemsp, List.getElem?_cons_zero, List.getElem?_cons_succ, List.set_cons_zero, List.set_cons_succ, List.replicate_succ, List.replicate_zero, List.map_cons, List.map_nil, List.cons_append, List.nil_append, List.length_cons, List.length_nil,
    Option.bind_some, Option.bind_none, Option.map_some, Option.map_none, Option.join_some, Option.toList_some, Option.toList_none, id_eq,
    frz_non, frz_bl, frz_int, frz_str, frz_tup, frz_lst, frz_dic, frz_scr, isZ_non, isZ_bl, isZ_int, isZ_str, isZ_tup, isZ_lstT, isZ_lstF, isZ_scr, tru_non, tru_bl, tru_int, tru_tup, tru_lst, asInt_int,
    c_eqI, c_neI, c_eqS, c_eqT, c_ltI, c_leI, c_gtI, c_geI, b_addI, b_subI, b_mulI, b_fdivI, b_modI, b_addL, b_addT, b_addS, b_mulL, sl_L, sl_T, bi_lenT, bi_lenL, bi_lenS, bi_absI, bi_intI, bi_listT, bi_listL, bi_listS, bi_tupT, bi_tupL, idx_T, idx_L, atq_0, atq_1, atq_2, atq_3, ixq_0, ixq_1, ixq_2,
    Nat.reduceSub, Nat.reduceAdd, Nat.reduceEqDiff, Int.reduceNeg, Int.reduceAdd, Int.reduceSub, Int.reduceMul, Int.reduceLT, Int.reduceLE, Option.some.injEq, Nat.reduceLeDiff, Nat.zero_add, List.isEmpty_cons, List.isEmpty_nil,
    if_true, if_false, ite_true, ite_false, ↓reduceIte, decide_eq_true_eq, beq_iff_eq, bne_iff_ne, ne_eq, Bool.not_eq_true', Bool.not_eq_eq_eq_not, Bool.and_true, Bool.true_and, Bool.false_and, Bool.not_true, Bool.not_false, Bool.false_eq_true, reduceCtorEq, and_true, true_and, and_self, bltg, isiq,
    f_is_number, f_nexts_of, f_walk, f_lower, f_hopes, f_follows, f_nested, f_law_pool, f_law_draw, f_law_pick, f_law_shuffled, f_law_same, f_law_fraction, f_law_chance, f_law_tree, f_law_nodes, f_law_plan, f_law_names, f_law_bare, f_law_ends, f_law_with_tells, f_law_marks, f_law,
    sig_0, sig_1, sig_2, sig_3, sig_4, sig_5, sig_6, sig_7, sig_8, sig_9, sig_10, sig_11, sig_12, sig_13, sig_14, sig_15, sig_16, sig_17, sig_18, sig_19, sig_20, sig_21, sig_22, $[$es:term],*])
theorem atq_last {α : Type} (xs : List α) (h : 0 < xs.length) : atq xs (-1) = xs[xs.length - 1]? := by
  unfold atq ixq
  rw [if_neg (by omega), if_pos (by omega)]
  rw [show (-1 + (xs.length : Int)).toNat = xs.length - 1 by omega]
  rfl
theorem heights_comp {scr na nb : D} {a M : Nat} {T : Tr} {kd : Int} {p : List D} {q2 q11 q12 q13 q14 q15 q16 q17 q18 q19 q20 q21 q22 q23 : Option D} {Q : List D → Env → Prop} {X : XC} {t} (hp : Pl p) (hM : M < 100)
    (h : ∀ (hs : List Int) (p : List D) (q23 : Option D), hs.length = nE T → Pl p → Q (hs.map .int) [some scr, some (.lst true p), q2, some (.int (a : Nat)), some (.int (M : Nat)), some (enc T), some (.lst false ((ends T []).map rowD)), some (.tup [na, nb]), some (.int kd), some (.lst true []), some (.lst true []), q11, q12, q13, q14, q15, q16, q17, q18, q19, q20, q21, q22, q23]) :
    W (compL [23] (cF (sigOf tab) (callN tab 39) (Sf.E.call 8 [Sf.E.var 1, Sf.E.bin (Sf.BOp.add) (Sf.E.var 4) (Sf.E.cint 1)] []) (Sf.T.nm 23) []) ((ends T []).map rowD) [some scr, some (.lst true p), q2, some (.int (a : Nat)), some (.int (M : Nat)), some (enc T), some (.lst false ((ends T []).map rowD)), some (.tup [na, nb]), some (.int kd), some (.lst true []), some (.lst true []), q11, q12, q13, q14, q15, q16, q17, q18, q19, q20, q21, q22, q23]) Q X t := by
  refine compW (fun xs r acc => ∃ (done rest : List Row) (hs : List Int) (p : List D) (q23 : Option D), ends T [] = done ++ rest ∧ xs = rest.map rowD ∧ hs.length = done.length ∧ acc = hs.map .int ∧ Pl p ∧ r = [some scr, some (.lst true p), q2, some (.int (a : Nat)), some (.int (M : Nat)), some (enc T), some (.lst false ((ends T []).map rowD)), some (.tup [na, nb]), some (.int kd), some (.lst true []), some (.lst true []), q11, q12, q13, q14, q15, q16, q17, q18, q19, q20, q21, q22, q23]) ⟨[], ends T [], [], p, q23, rfl, rfl, rfl, rfl, hp, rfl⟩ ?_ ?_
  · rintro x xs r acc ⟨done, rest, hs, p, q23, h1, h2, h3, rfl, hp, rfl⟩
    cases rest with
    | nil => cases h2
    | cons y rest =>
      rw [List.map_cons] at h2
      obtain ⟨rfl, rfl⟩ := List.cons.inj h2
      trivial
      refine w_draw hp (by omega) (by omega) fun v p1 h4 h5 hp1 => ?_
      trivial
      exact ⟨done ++ [y], rest, hs ++ [v], p1, some (rowD y), by rw [h1]; simp, rfl, by rw [List.length_append, List.length_append, h3]; rfl, by rw [List.map_append]; rfl, hp1, rfl⟩
  · rintro r acc ⟨done, rest, hs, p, q23, h1, h2, h3, rfl, hp, rfl⟩
    cases rest with
    | cons y rest => cases h2
    | nil =>
      rw [List.append_nil] at h1
      exact h hs p q23 (by rw [h3, ← h1, ends_len]) hp
/-- the end of a turn -/
theorem turn_end {scr na nb marks : D} {M : Nat} {T : Tr} {p : List D} {us : List TT} {q2 q3 q5 q7 q8 q10 q11 q12 q13 q14 q15 q16 q17 q20 q21 q23 : Option D} {N : Env → Prop} {R : D → Env → Prop} {B K : Env → Prop} {X : XC} {t} (hn0 : 0 < nE T) (hM : us.length = M) (hM1 : 1 ≤ M) (hM2 : M < 100) (hus : ∀ u ∈ us, Gd T u) (hmk : marks.isZ = true) (h : N [some scr, some (.lst true p), q2, q3, some (.int (M : Nat)), q5, some (.lst false ((ends T []).map rowD)), q7, q8, some (.lst true (us.map (plD na nb))), q10, q11, q12, q13, q14, q15, q16, q17, some marks, some (.bl (adj us)), q20, q21, some (.int (dueL (own us (nE T - 1)) 0)), q23]) :
    WS (exs (sigOf tab) (callN tab 39) [lw_9, lw_10] [some scr, some (.lst true p), q2, q3, some (.int (M : Nat)), q5, some (.lst false ((ends T []).map rowD)), q7, q8, some (.lst true (us.map (plD na nb))), q10, q11, q12, q13, q14, q15, q16, q17, some marks, some (.bl (adj us)), q20, q21, some (.int (dueL (own us (nE T - 1)) 0)), q23]) N R B K X t := by
  have hne : us ≠ [] := by intro e; rw [e] at hM; simp at hM; omega
  have hmf := frz_isZ marks hmk
  obtain ⟨row, hrow⟩ : ∃ row, (ends T [])[nE T - 1]? = some row := ⟨_, List.getElem?_eq_getElem (by rw [ends_len]; omega)⟩
  have f6 : atq ((ends T []).map rowD) (-1) = some (rowD row) := by
    rw [atq_last _ (by rw [List.length_map, ends_len]; exact hn0), List.length_map, ends_len, List.getElem?_map, hrow]; rfl
  obtain ⟨p0, UM, g1, g2, g3, g4⟩ := all_paths hus hrow hne
  have hf1 : (rowD row).frz = rowD row := rfl
  unfold lw_9 lw_10
  exists hmk, hmf, f6, hf1
  rw [g1, ← g3]
  refine w_lower (k := 36) (n := 6) (by omega) g2 ?_
  rw [g4, g3]
  trivial
  refine w_same_int ?_
  trivial
  refine w_nested (k := 35) (n := 6) (T := T) (by omega) (by omega) (fun u hu => ⟨(hus u hu).1, (hus u hu).2, gd_sz (hus u hu)⟩) ?_
  trivial
  refine w_same_bl ?_
  trivial
  refine w_nested (k := 35) (n := 6) (T := T) (by omega) (by omega) (fun u hu => ⟨(hus u hu).1, (hus u hu).2, gd_sz (hus u hu)⟩) ?_
  trivial
  refine w_same_bl ?_
  trivial
  exact h
def IL (scr : D) (r : Env) : Prop := ∃ (p : List D) (q2 q3 q4 q5 q6 q7 q8 q9 q10 q11 q12 q13 q14 q15 q16 q17 q18 q19 q20 q21 q22 q23 : Option D), Pl p ∧ zq q15 = true ∧ zq q20 = true ∧ zq q23 = true ∧ r = [some scr, some (.lst true p), q2, q3, q4, q5, q6, q7, q8, q9, q10, q11, q12, q13, q14, q15, q16, q17, q18, q19, q20, q21, q22, q23]
theorem turn_rest {scr : D} {a M : Nat} {p : List D} {q2 q3 q4 q5 q6 q7 q8 q9 q10 q11 q12 q13 q14 q15 q16 q17 q18 q19 q20 q21 q22 q23 : Option D} {N : Env → Prop} {R : D → Env → Prop} {B K : Env → Prop} {X : XC} {t} (ha : 1 ≤ a) (ha2 : a < 10) (hM1 : 1 ≤ M) (hM2 : M < 100) (hp : Pl p) (h15 : zq q15 = true) (h20 : zq q20 = true) (h23 : zq q23 = true) (h : ∀ r, IL scr r → N r) :
    WS (exs (sigOf tab) (callN tab 39) [lw_1, lw_2, lw_3, lw_4, lw_5, lw_6, lw_7, lw_8, lw_9, lw_10] [some scr, some (.lst true p), q2, some (.int (a : Nat)), some (.int (M : Nat)), q5, q6, q7, q8, q9, q10, q11, q12, q13, q14, q15, q16, q17, q18, q19, q20, q21, q22, q23]) N R B K X t := by
  unfold lw_1
  trivial
  refine w_bare (k := 30) (n := 5) (by omega) (by omega) hp (by omega) fun T p1 hw hp1 => ?_
  have hn0 : 0 < nE T := by
    have := nE_pos 5 (upT T) (df_up 5 T hw)
    rwa [bare_up] at this
  have hnE : nE T < 2000 := by
    have := ends_le 5 T [] hw
    rw [ends_len] at this
    omega
  have e0 : 0 ≤ SZ := by decide
  have e2 : 0 + 1 + 1 ≤ SZ := by decide
  trivial
  unfold lw_2
  exists enc_isZ, frz_enc, e0
  rw [rowD_nil]
  refine w_ends 33 5 T [] _ _ _ (by omega) hw (by simp) fun o => ?_
  trivial
  refine w_names (k := 36) hp1 (by omega) fun n1 p2 hp2 => ?_
  trivial
  refine w_names (k := 36) (n := 1) hp2 (by omega) fun n2 p3 hp3 => ?_
  exists e2
  unfold lw_3
  trivial
  refine w_draw hp3 (by omega) (by omega) fun kd p4 h1 h2 hp4 => ?_
  exists e0
  unfold lw_4
  cases o <;>
  · exists h23
    refine heights_comp hp4 hM2 fun hs p5 q23' hhs hp5 => ?_
    trivial
    unfold lw_5
    exists List.length_map, ends_len
    refine w_draw hp5 (by omega) (by omega) fun odd p6 h3 h4 hp6 => ?_
    trivial
    refine w_draw hp6 (by omega) (by omega) fun po p7 h5 h6 hp7 => ?_
    trivial
    obtain ⟨od, rfl⟩ : ∃ od : Nat, odd = (od : Int) := ⟨odd.toNat, by omega⟩
    refine lw6 (na := .tup n1) (nb := .tup n2) hp7 hw hnE hM2 hhs (by omega) rfl rfl h15 h20 fun us p8 q14 q15 q16 q17 hul hus hp8 h15 => ?_
    trivial
    unfold lw_7
    trivial
    refine w_marks (k := 36) hp8 (by omega) hM2 fun mk p9 hp9 => ?_
    trivial
    refine lw8 (marks := .tup mk) hnE hn0 hul hM1 hM2 hus h15 rfl fun o q20 q21 h20 => ?_
    trivial
    rw [← WS_cons (t := ⟨⟩)]
    refine turn_end (marks := .tup mk) hn0 hul hM1 hM2 hus rfl ?_
    refine h _ ⟨_, _, _, _, _, _, _, _, _, _, _, _, _, _, _, _, _, _, _, _, _, _, _, hp9, ?_, ?_, ?_, rfl⟩
    · exact h15
    · exact h20
    · exact h23
end K84
end
section
set_option maxRecDepth 100000
set_option linter.all false
namespace K84
open Sf
local macro_rules
  | `(tactic| trivial) => `(tactic| simp only [WO_some, WO_none, ↓WO_map, ↓WO_bind, WO_iteN, ↓W_ok, ↓W_bad, ↓W_lift, ↓W_bnd, W_iteBad, W_ite, ↓WS_nx, ↓WS_rt, ↓WS_bk, ↓WS_ct, ↓WS_bad, ↓WS_fin, WS_iteBad, WS_ite, W_ok, W_bad, W_lift, W_bnd,
    ↓w_z, w_pS, w_pN, ↓w_varV, ↓w_var, ↓w_cint, ↓w_cbl, ↓w_cnon, ↓w_cstr, ↓w_bin, ↓w_neg, ↓w_cmp, ↓w_chn, ↓w_not, ↓w_and, ↓w_or, ↓w_one, ↓w_ifx, ↓w_tup, ↓w_lst, ↓w_dic0, ↓w_subV, ↓w_subN, ↓w_slcV, ↓w_slcN, ↓w_call, ↓w_bi, ↓w_bi2, ↓w_isi, ↓w_comp, ↓w_anyA, ↓w_pop0, ↓w_pop1, ↓w_index, ↓w_lrng, ↓w_rng1, ↓w_rng2, ↓w_rng3, ↓w_enm, ↓w_zip, ↓w_iV, ↓w_i_sub, ↓w_i_slc, ↓w_i_call, ↓w_i_tup, ↓w_i_comp,
    w_evs0, w_evs, w_evz0, w_evz, w_evc0, w_evc, ↓w_evo0, w_evo0, w_evo, ↓w_tV, ↓w_tcbl, ↓w_tnot, ↓w_tand, ↓w_tor, ↓w_tone, ↓w_t_cmp, ↓w_t_chn, ↓w_t_call, ↓w_t_sub, ↓w_t_isi, ↓w_t_bi, ↓w_t_bin, w_evts0, w_evts,
    s_nil, s_cons, o_none, o_some, ca_none, ca_some, pm_nil, pm_none, pl_nil, pl_cons, gb_none, gb_some, ↓w_has, isL_some, ↓w_hasL, ↓x_asg, ↓x_asgT, ↓x_par, ↓x_aug, setD_L, ↓x_setx, appD_L, ↓x_app, ↓x_expr, ↓x_ret, ↓x_retN, ↓x_ite, ↓x_whl, ↓x_for, ↓x_brk, ↓x_cnt, ↓x_pass, ↓WS_nil, ↓WS_cons, ↓WS_fF, ↓W_cF,
    bt_nm, bt_tp, pu_nil, pu_cons, pk_z, pk_s, pt_z, pt_s, oz_nil, oz_cons, zq_none, zq_some, wp_nil, wp_cons, bk_nil, bk_cons, fe_none, fe_0, fe_1, jn_some, mv_L, mv_D, mv_non, mv_bl, mv_int, mv_str, mv_tup, mv_F, mv_scr, mv_z,
    q_End_end, q_End_look, q_End_block, q_End_draw, q_End_tell, q_End_choose, q_Look_end, q_Look_look, q_Look_block, q_Look_draw, q_Look_tell, q_Look_choose, q_Block_end, q_Block_look, q_Block_block, q_Block_draw, q_Block_tell, q_Block_choose, q_Draw_end, q_Draw_look, q_Draw_block, q_Draw_draw, q_Draw_tell, q_Draw_choose, q_Tell_end, q_Tell_look, q_Tell_block, q_Tell_draw, q_Tell_tell, q_Tell_choose, cut_2, cut_t2, cut_t3,
    slot_var, slot_bad, slot_cint, slot_cbl, slot_cnon, slot_cstr, slot_bin, slot_neg, slot_cmp, slot_chn, slot_not, slot_and, slot_or, slot_ifx, slot_one, slot_tup, slot_lst, slot_sub, slot_slc, slot_call, slot_bi, slot_bi2, slot_isi, slot_comp, slot_lrng, slot_pop0, slot_pop1, slot_index, simple_var, simple_cint, simple_cbl, simple_cnon, simple_cstr, simple_bin, simple_neg, simple_sub, simple_slc, simple_call, simple_bi, simple_bi2, simple_isi, simple_lst, simple_tup, simple_comp, popD, popI, augop, iteq, itemsq, itemsp, List.getElem?_cons_zero, List.getElem?_cons_succ, List.set_cons_zero, List.set_cons_succ, List.replicate_succ, List.replicate_zero, List.map_cons, List.map_nil, List.cons_append, List.nil_append, List.length_cons, List.length_nil,
    Option.bind_some, Option.bind_none, Option.map_some, Option.map_none, Option.join_some, Option.toList_some, Option.toList_none, id_eq,
    frz_non, frz_bl, frz_int, frz_str, frz_tup, frz_lst, frz_dic, frz_scr, isZ_non, isZ_bl, isZ_int, isZ_str, isZ_tup, isZ_lstT, isZ_lstF, isZ_scr, tru_non, tru_bl, tru_int, tru_tup, tru_lst, asInt_int,
    c_eqI, c_neI, c_eqS, c_eqT, c_ltI, c_leI, c_gtI, c_geI, b_addI, b_subI, b_mulI, b_fdivI, b_modI, b_addL, b_addT, b_addS, b_mulL, sl_L, sl_T, bi_lenT, bi_lenL, bi_lenS, bi_absI, bi_intI, bi_listT, bi_listL, bi_listS, bi_tupT, bi_tupL, idx_T, idx_L, atq_0, atq_1, atq_2, atq_3, ixq_0, ixq_1, ixq_2,
    Nat.reduceSub, Nat.reduceAdd, Nat.reduceEqDiff, Int.reduceNeg, Int.reduceAdd, Int.reduceSub, Int.reduceMul, Int.reduceLT, Int.reduceLE, Option.some.injEq, Nat.reduceLeDiff, Nat.zero_add, List.isEmpty_cons, List.isEmpty_nil,
    if_true, if_false, ite_true, ite_false, ↓reduceIte, decide_eq_true_eq, beq_iff_eq, bne_iff_ne, ne_eq, Bool.not_eq_true', Bool.not_eq_eq_eq_not, Bool.and_true, Bool.true_and, Bool.false_and, Bool.not_true, Bool.not_false, Bool.false_eq_true, reduceCtorEq, and_true, true_and, and_self, bltg, isiq,
    f_is_number, f_nexts_of, f_walk, f_lower, f_hopes, f_follows, f_nested, f_law_pool, f_law_draw, f_law_pick, f_law_shuffled, f_law_same, f_law_fraction, f_law_chance, f_law_tree, f_law_nodes, f_law_plan, f_law_names, f_law_bare, f_law_ends, f_law_with_tells, f_law_marks, f_law,
    sig_0, sig_1, sig_2, sig_3, sig_4, sig_5, sig_6, sig_7, sig_8, sig_9, sig_10, sig_11, sig_12, sig_13, sig_14, sig_15, sig_16, sig_17, sig_18, sig_19, sig_20, sig_21, sig_22])
  | `(tactic| exists $es:term,*) => `(tactic| simp only [WO_some, WO_none, ↓WO_map, ↓WO_bind, WO_iteN, ↓W_ok, ↓W_bad, ↓W_lift, ↓W_bnd, W_iteBad, W_ite, ↓WS_nx, ↓WS_rt, ↓WS_bk, ↓WS_ct, ↓WS_bad, ↓WS_fin, WS_iteBad, WS_ite, W_ok, W_bad, W_lift, W_bnd,
    ↓w_z, w_pS, w_pN, ↓w_varV, ↓w_var, ↓w_cint, ↓w_cbl, ↓w_cnon, ↓w_cstr, ↓w_bin, ↓w_neg, ↓w_cmp, ↓w_chn, ↓w_not, ↓w_and, ↓w_or, ↓w_one, ↓w_ifx, ↓w_tup, ↓w_lst, ↓w_dic0, ↓w_subV, ↓w_subN, ↓w_slcV, ↓w_slcN, ↓w_call, ↓w_bi, ↓w_bi2, ↓w_isi, ↓w_comp, ↓w_anyA, ↓w_pop0, ↓w_pop1, ↓w_index, ↓w_lrng, ↓w_rng1, ↓w_rng2, ↓w_rng3, ↓w_enm, ↓w_zip, ↓w_iV, ↓w_i_sub, ↓w_i_slc, ↓w_i_call, ↓w_i_tup, ↓w_i_comp,
    w_evs0, w_evs, w_evz0, w_evz, w_evc0, w_evc, ↓w_evo0, w_evo0, w_evo, ↓w_tV, ↓w_tcbl, ↓w_tnot, ↓w_tand, ↓w_tor, ↓w_tone, ↓w_t_cmp, ↓w_t_chn, ↓w_t_call, ↓w_t_sub, ↓w_t_isi, ↓w_t_bi, ↓w_t_bin, w_evts0, w_evts,
    s_nil, s_cons, o_none, o_some, ca_none, ca_some, pm_nil, pm_none, pl_nil, pl_cons, gb_none, gb_some, ↓w_has, isL_some, ↓w_hasL, ↓x_asg, ↓x_asgT, ↓x_par, ↓x_aug, setD_L, ↓x_setx, appD_L, ↓x_app, ↓x_expr, ↓x_ret, ↓x_retN, ↓x_ite, ↓x_whl, ↓x_for, ↓x_brk, ↓x_cnt, ↓x_pass, ↓WS_nil, ↓WS_cons, ↓WS_fF, ↓W_cF,
    bt_nm, bt_tp, pu_nil, pu_cons, pk_z, pk_s, pt_z, pt_s, oz_nil, oz_cons, zq_none, zq_some, wp_nil, wp_cons, bk_nil, bk_cons, fe_none, fe_0, fe_1, jn_some, mv_L, mv_D, mv_non, mv_bl, mv_int, mv_str, mv_tup, mv_F, mv_scr, mv_z,
    q_End_end, q_End_look, q_End_block, q_End_draw, q_End_tell, q_End_choose, q_Look_end, q_Look_look, q_Look_block, q_Look_draw, q_Look_tell, q_Look_choose, q_Block_end, q_Block_look, q_Block_block, q_Block_draw, q_Block_tell, q_Block_choose, q_Draw_end, q_Draw_look, q_Draw_block, q_Draw_draw, q_Draw_tell, q_Draw_choose, q_Tell_end, q_Tell_look, q_Tell_block, q_Tell_draw, q_Tell_tell, q_Tell_choose, cut_2, cut_t2, cut_t3,
    slot_var, slot_bad, slot_cint, slot_cbl, slot_cnon, slot_cstr, slot_bin, slot_neg, slot_cmp, slot_chn, slot_not, slot_and, slot_or, slot_ifx, slot_one, slot_tup, slot_lst, slot_sub, slot_slc, slot_call, slot_bi, slot_bi2, slot_isi, slot_comp, slot_lrng, slot_pop0, slot_pop1, slot_index, simple_var, simple_cint, simple_cbl, simple_cnon, simple_cstr, simple_bin, simple_neg, simple_sub, simple_slc, simple_call, simple_bi, simple_bi2, simple_isi, simple_lst, simple_tup, simple_comp, popD, popI, augop, iteq, itemsq, itemsp, List.getElem?_cons_zero, List.getElem?_cons_succ, List.set_cons_zero, List.set_cons_succ, List.replicate_succ, List.replicate_zero, List.map_cons, List.map_nil, List.cons_append, List.nil_append, List.length_cons, List.length_nil,
    Option.bind_some, Option.bind_none, Option.map_some, Option.map_none, Option.join_some, Option.toList_some, Option.toList_none, id_eq,
    frz_non, frz_bl, frz_int, frz_str, frz_tup, frz_lst, frz_dic, frz_scr, isZ_non, isZ_bl, isZ_int, isZ_str, isZ_tup, isZ_lstT, isZ_lstF, isZ_scr, tru_non, tru_bl, tru_int, tru_tup, tru_lst, asInt_int,
    c_eqI, c_neI, c_eqS, c_eqT, c_ltI, c_leI, c_gtI, c_geI, b_addI, b_subI, b_mulI, b_fdivI, b_modI, b_addL, b_addT, b_addS, b_mulL, sl_L, sl_T, bi_lenT, bi_lenL, bi_lenS, bi_absI, bi_intI, bi_listT, bi_listL, bi_listS, bi_tupT, bi_tupL, idx_T, idx_L, atq_0, atq_1, atq_2, atq_3, ixq_0, ixq_1, ixq_2,
    Nat.reduceSub, Nat.reduceAdd, Nat.reduceEqDiff, Int.reduceNeg, Int.reduceAdd, Int.reduceSub, Int.reduceMul, Int.reduceLT, Int.reduceLE, Option.some.injEq, Nat.reduceLeDiff, Nat.zero_add, List.isEmpty_cons, List.isEmpty_nil,
    if_true, if_false, ite_true, ite_false, ↓reduceIte, decide_eq_true_eq, beq_iff_eq, bne_iff_ne, ne_eq, Bool.not_eq_true', Bool.not_eq_eq_eq_not, Bool.and_true, Bool.true_and, Bool.false_and, Bool.not_true, Bool.not_false, Bool.false_eq_true, reduceCtorEq, and_true, true_and, and_self, bltg, isiq,
    f_is_number, f_nexts_of, f_walk, f_lower, f_hopes, f_follows, f_nested, f_law_pool, f_law_draw, f_law_pick, f_law_shuffled, f_law_same, f_law_fraction, f_law_chance, f_law_tree, f_law_nodes, f_law_plan, f_law_names, f_law_bare, f_law_ends, f_law_with_tells, f_law_marks, f_law,
    sig_0, sig_1, sig_2, sig_3, sig_4, sig_5, sig_6, sig_7, sig_8, sig_9, sig_10, sig_11, sig_12, sig_13, sig_14, sig_15, sig_16, sig_17, sig_18, sig_19, sig_20, sig_21, sig_22, $[$es:term],*])
theorem w_pool {k : Nat} {ns : List Int} {Q : D → Env → Prop} {X : XC} {t} (hl : ns.length ≤ 63) (h : ∀ p, Pl p → Q (.lst true p) [none]) : W (callN tab (k + 1) 7 [.scr (ns.map .int)]) Q X t := by
  obtain ⟨p, e, hp⟩ := pool_run k ns hl
  exact W_of e (h p hp)
theorem w_law {ns : List Int} (hl : ns.length ≤ 63) : W (callN tab 40 22 [.scr (ns.map .int)]) (fun d _ => d = .bl true) (fun _ _ _ => False) ⟨⟩ := by
  refine C22 ?_
  rw [law_is]
  unfold law_0 law_2
  trivial
  refine w_pool hl fun p hp => ?_
  trivial
  rw [lw_is]
  have e4 : rng2q 0 4 = some (rngq 0 1 4) := rng_len (n := 4) (by omega)
  exists e4
  refine forW (fun xs r => (∃ (i j : Nat), xs = rngq (i : Int) 1 j) ∧ IL (.scr (ns.map .int)) r) ⟨⟨0, 4, rfl⟩, p, none, none, none, none, none, none, none, none, none, none, none, none, none, none, none, none, none, none, none, none, none, none, hp, rfl, rfl, rfl, rfl⟩ ?_ ?_
  · rintro x xs r ⟨⟨i, j, h1⟩, p, q2, q3, q4, q5, q6, q7, q8, q9, q10, q11, q12, q13, q14, q15, q16, q17, q18, q19, q20, q21, q22, q23, hp, h15, h20, h23, rfl⟩
    cases j with
    | zero => cases h1
    | succ j =>
      rw [rngq_succ] at h1
      obtain ⟨rfl, rfl⟩ := List.cons.inj h1
      have hnx : ∀ r, IL (.scr (ns.map .int)) r → (∃ (i' j' : Nat), rngq ((i : Int) + 1) 1 j = rngq (i' : Int) 1 j') ∧ IL (.scr (ns.map .int)) r := fun r h => ⟨⟨i + 1, j, rfl⟩, h⟩
      simp only [↓WS_fF, bt_nm, WO_some, ↓WS_cons]
      unfold lw_0
      trivial
      refine w_draw hp (by omega) (by omega) fun v p1 h2 h3 hp1 => ?_
      trivial
      refine w_draw hp1 (by omega) (by omega) fun v2 p2 h4 h5 hp2 => ?_
      obtain ⟨a, ha⟩ : ∃ a : Nat, 1 + v = (a : Int) := ⟨(1 + v).toNat, by omega⟩
      by_cases hv : v2 = 0
      · exists hv
        rw [ha, show (40 : Int) = ((40 : Nat) : Int) from rfl]
        rw [← WS_cons (t := ⟨⟩)]
        exact turn_rest (q3 := none) (q4 := none) (by omega) (by omega) (by omega) (by omega) hp2 h15 h20 h23 hnx
      · exists hv
        refine w_draw hp2 (by omega) (by omega) fun v3 p3 h6 h7 hp3 => ?_
        trivial
        obtain ⟨M, hM⟩ : ∃ M : Nat, 1 + v3 = (M : Int) := ⟨(1 + v3).toNat, by omega⟩
        rw [ha, hM]
        rw [← WS_cons (t := ⟨⟩)]
        exact turn_rest (q3 := none) (q4 := none) (by omega) (by omega) (by omega) (by omega) hp3 h15 h20 h23 hnx
  · rintro r ⟨_, p, q2, q3, q4, q5, q6, q7, q8, q9, q10, q11, q12, q13, q14, q15, q16, q17, q18, q19, q20, q21, q22, q23, hp, h15, h20, h23, rfl⟩
    trivial
theorem run_tab (ns : List Int) (hl : ns.length ≤ 63) : ∃ fin, callN tab 40 22 [.scr (ns.map .int)] = .ok (.bl true) fin := by
  obtain ⟨d, fin, e, hd⟩ := W_ex (w_law hl)
  exact ⟨fin, by rw [e, hd]⟩
end K84
end
section
namespace K84
open Sf
theorem tab_is : tabOf ds kwk = tab := by rfl
theorem run_true : ∀ ns : List Int, ns.length ≤ 63 → ∃ fin, callN (tabOf ds kwk) 40 22 [.scr (ns.map .int)] = .ok (.bl true) fin := by
  rw [tab_is]
  exact run_tab
end K84
end
open PySem PySem.W PyProof.Rows
set_option maxRecDepth 100000 in
set_option maxHeartbeats 0 in
theorem PySem.Challenge.cw_seldomfalse_k84_lower_and_nested_holds : PySem.Challenge.rw_seldomfalse_k84_lower_and_nested.Holds := by
  w_on; o_law; k_head; (case hw => w_witness2)
  k_fill
  refine Sf.walkT (xg := "_hopes") (x := "script") (k := 40) (run := Sf.callN (Sf.tabOf K84.ds K84.kwk) 40 22) (l := PySem.Challenge.rw_seldomfalse_k84_lower_and_nested) rfl rfl ⟨rfl, by decide, by decide⟩ (fun w h Y => PySem.W.kIn_of Y) ?hrec K84.run_true ?F
  case hrec => exact rfl
  case F =>
    intro w mg fa h KX G hmg
    refine' K84.all_mk KX G hmg ?ht ?hp ?a0 ?l0 ?c0 ?k0 ?a1 ?l1 ?c1 ?k1 ?a2 ?l2 ?c2 ?k2 ?a3 ?l3 ?c3 ?k3 ?a4 ?l4 ?c4 ?k4 ?a5 ?l5 ?c5 ?k5 ?a6 ?l6 ?c6 ?k6 ?a7 ?l7 ?c7 ?k7 ?a8 ?l8 ?c8 ?k8 ?a9 ?l9 ?c9 ?k9 ?a10 ?l10 ?c10 ?k10 ?a11 ?l11 ?c11 ?k11 ?a12 ?l12 ?c12 ?k12 ?a13 ?l13 ?c13 ?k13 ?a14 ?l14 ?c14 ?k14 ?a15 ?l15 ?c15 ?k15 ?a16 ?l16 ?c16 ?k16 ?a17 ?l17 ?c17 ?k17 ?a18 ?l18 ?c18 ?k18 ?a19 ?l19 ?c19 ?k19 ?a20 ?l20 ?c20 ?k20 ?a21 ?l21 ?c21 ?k21 ?a22 ?l22 ?c22 ?k22 ?z0 ?z1 ?z2 ?z3 ?z4 ?z5 ?z6 ?z7 ?z8 ?z9 ?z10 ?z11 ?z12 ?z13 ?z14 ?z15
    (case ht => exact rfl); (case hp => exact rfl)
    (case a0 => k_is); (case l0 => k_is); (case c0 => k_is); (case k0 => k_is)
    (case a1 => k_is); (case l1 => k_is); (case c1 => k_is); (case k1 => k_is)
    (case a2 => k_is); (case l2 => k_is); (case c2 => k_is); (case k2 => k_is)
    (case a3 => k_is); (case l3 => k_is); (case c3 => k_is); (case k3 => k_is)
    (case a4 => k_is); (case l4 => k_is); (case c4 => k_is); (case k4 => k_is)
    (case a5 => k_is); (case l5 => k_is); (case c5 => k_is); (case k5 => k_is)
    (case a6 => k_is); (case l6 => k_is); (case c6 => k_is); (case k6 => k_is)
    (case a7 => k_is); (case l7 => k_is); (case c7 => k_is); (case k7 => k_is)
    (case a8 => k_is); (case l8 => k_is); (case c8 => k_is); (case k8 => k_is)
    (case a9 => k_is); (case l9 => k_is); (case c9 => k_is); (case k9 => k_is)
    (case a10 => k_is); (case l10 => k_is); (case c10 => k_is); (case k10 => k_is)
    (case a11 => k_is); (case l11 => k_is); (case c11 => k_is); (case k11 => k_is)
    (case a12 => k_is); (case l12 => k_is); (case c12 => k_is); (case k12 => k_is)
    (case a13 => k_is); (case l13 => k_is); (case c13 => k_is); (case k13 => k_is)
    (case a14 => k_is); (case l14 => k_is); (case c14 => k_is); (case k14 => k_is)
    (case a15 => k_is); (case l15 => k_is); (case c15 => k_is); (case k15 => k_is)
    (case a16 => k_is); (case l16 => k_is); (case c16 => k_is); (case k16 => k_is)
    (case a17 => k_is); (case l17 => k_is); (case c17 => k_is); (case k17 => k_is)
    (case a18 => k_is); (case l18 => k_is); (case c18 => k_is); (case k18 => k_is)
    (case a19 => k_is); (case l19 => k_is); (case c19 => k_is); (case k19 => k_is)
    (case a20 => k_is); (case l20 => k_is); (case c20 => k_is); (case k20 => k_is)
    (case a21 => k_is); (case l21 => k_is); (case c21 => k_is); (case k21 => k_is)
    (case a22 => k_is); (case l22 => k_is); (case c22 => k_is); (case k22 => k_is)
    (case z0 => k_is)
    (case z1 => k_is)
    (case z2 => k_is)
    (case z3 => k_is)
    (case z4 => k_is)
    (case z5 => k_is)
    (case z6 => k_is)
    (case z7 => k_is)
    (case z8 => k_is)
    (case z9 => k_is)
    (case z10 => k_is)
    (case z11 => k_is)
    (case z12 => k_is)
    (case z13 => k_is)
    (case z14 => k_is)
    (case z15 => k_is)
