import PyProof.Rows.All
import Wide.All
import OpenK.AllK
import Wide.FinOn
import PySem.Syntax
import PyProof.P3Statements
import KE.LtData
import HandS.ForMost
import HandS.Exc
import HandS.Wide
import HandS.TupAny
import HandS.Deep
import HandS.DictTup
import HandS.Conv
import HandS.Flow
import HandS.IsInst
import HandS.SortInts
import KE.SortData
import HandS.CallSlots
import HandS.List
import HandS.Small
import HandS.Comp
import HandS.Defaults
import HandS.Codes
import HandS.Head0
import HandS.Head1
import HandS.Head2
import HandS.HeadEnd
import HandS.HeadHook1
import HandS.HeadHook2
import PySem.Challenge.RW_rowsletgo_k25_tally_counts_and_sums
set_option Elab.async false
set_option maxRecDepth 100000
set_option linter.all false
set_option autoImplicit false
/-! Iv1: values without a heap, the small syntax, its semantics. -/
namespace Iv
open PySem (Str Expr Stmt CmpOp Operator BoolOp PyData)

abbrev Key := Sum Int Str
inductive D where
  | non | bl (b : Bool) | int (i : Int) | str (x : Str)
  | lst (ds : List D) | tup (ds : List D)
  | obj (c : Str) (ns : List Str) (ds : List D)
  | cell (n : Nat)
  | scr (ns : List Int)
  deriving Inhabited
/-- what a container of one's own holds -/
inductive C where
  | lst (ds : List D) | dK (kvs : List (Key × D)) | dT (kvs : List (List Key × D))
  deriving Inhabited
/-- a slot: unset, a value, a container of one's own, one lent by the caller, one that a loop walks (b: lent) -/
inductive Sl where
  | un | val (d : D) | own (c : C) | ref (c : C) | lck (b : Bool) (c : C)
  deriving Inhabited
structure Inst where
  c : Str
  fs : List (Str × Sl)
  deriving Inhabited
structure Sg where
  rho : List Sl
  cs : List Inst
inductive Pl where
  | slot (i : Nat) | fld (n : Nat) (f : Str)
  deriving DecidableEq
inductive Res where
  | val (d : D) | fresh (c : C) | brw (p : Pl)
  deriving Inhabited
structure Xn where
  c : Str
  fs : List (Str × D)
inductive Out (α : Type) where
  | ok (a : α) | exc (x : Xn)
abbrev M (α : Type) := Sg → Option (Out α × Sg)
def ret {α : Type} (a : α) : M α := fun g => some (.ok a, g)
def bnd {α β : Type} (m : M α) (k : α → M β) : M β := fun g =>
  match m g with
  | none => none
  | some (.exc x, g') => some (.exc x, g')
  | some (.ok a, g') => k a g'

/-! ### places -/
def Sl.cont : Sl → Option C
  | .own c => some c
  | .ref c => some c
  | .lck _ c => some c
  | _ => none
def fget (f : Str) : List (Str × Sl) → Option Sl
  | [] => none
  | (n, s) :: r => if n = f then some s else fget f r
def fput (f : Str) (s : Sl) : List (Str × Sl) → List (Str × Sl)
  | [] => [(f, s)]
  | (n, t) :: r => if n = f then (n, s) :: r else (n, t) :: fput f s r
def cont (g : Sg) : Pl → Option C
  | .slot i => (g.rho[i]?).bind Sl.cont
  | .fld n f => (g.cs[n]?).bind fun I => (fget f I.fs).bind Sl.cont
def Sl.put (c : C) : Sl → Option Sl
  | .own _ => some (.own c)
  | .ref _ => some (.ref c)
  | _ => none
def setC (g : Sg) (p : Pl) (c : C) : Option Sg :=
  match p with
  | .slot i => ((g.rho[i]?).bind (Sl.put c)).map fun s => { g with rho := g.rho.set i s }
  | .fld n f => match g.cs[n]? with
    | some I => ((fget f I.fs).bind (Sl.put c)).map fun s => { g with cs := g.cs.set n { I with fs := fput f s I.fs } }
    | none => none

def C.view : C → Option D
  | .lst ds => some (.lst ds)
  | _ => none
/-- what may be read of a result now -/
def dview (g : Sg) : Res → Option D
  | .val d => some d
  | .fresh c => c.view
  | .brw p => (cont g p).bind C.view
def cview (g : Sg) : Res → Option C
  | .fresh c => some c
  | .brw p => cont g p
  | .val (.lst ds) => some (.lst ds)
  | _ => none
/-- a result taken as a value for ever -/
def Res.take : Res → Option D
  | .val d => some d
  | .fresh (.lst ds) => some (.lst ds)
  | _ => none

/-! ### data as the model's data -/
mutual
def toPy : D → Option PyData
  | .non => some .none
  | .bl b => some (.bool b)
  | .int i => some (.int i)
  | .str x => some (.str x)
  | .lst ds => (toPys ds).map .list
  | .tup ds => (toPys ds).map .tuple
  | .obj _ _ _ => none
  | .cell _ => none
  | .scr _ => none
def toPys : List D → Option (List PyData)
  | [] => some []
  | d :: ds => match toPy d, toPys ds with
    | some p, some ps => some (p :: ps)
    | _, _ => none
end
-- no reference to an instance that may change
mutual
def nf : D → Bool
  | .lst ds => nfs ds
  | .tup ds => nfs ds
  | .obj _ _ ds => nfs ds
  | .cell _ => false
  | _ => true
def nfs : List D → Bool
  | [] => true
  | d :: ds => nf d && nfs ds
end
def flat : D → Bool
  | .non => true | .bl _ => true | .int _ => true | .str _ => true
  | _ => false

abbrev line : Nat := 16777216

/-! ### operators -/
def ixN (n : Nat) (i : Int) : Option Nat := if 0 ≤ i then (if i < n then some i.toNat else none) else if -(n : Int) ≤ i then some (i + n).toNat else none
def ixD {α : Type} (xs : List α) (i : Int) : Option α := (ixN xs.length i).bind fun j => xs[j]?
/-- the bounds of a slice (step 1) -/
def sIx (n d : Nat) : Option Int → Nat
  | none => d
  | some v => if v < 0 then (v + (n : Int)).toNat else min v.toNat n
def cutD {α : Type} (xs : List α) (lo hi : Option Int) : List α := (xs.drop (sIx xs.length 0 lo)).take (sIx xs.length xs.length hi - sIx xs.length 0 lo)
def mulOk (i j : Int) : Bool := decide (i.natAbs.log2 + j.natAbs.log2 < 1000000)
def bits (i : Int) : Nat := if i = 0 then 0 else i.natAbs.log2 + 1
def binD : Operator → D → D → Option Res
  | .Add, .int i, .int j => some (.val (.int (i + j)))
  | .Add, .str x, .str y => if x.length + y.length ≤ line then some (.val (.str (x ++ y))) else none
  | .Add, .lst a, .lst b => if a.length + b.length ≤ line then some (.fresh (.lst (a ++ b))) else none
  | .Add, .tup a, .tup b => if a.length + b.length ≤ line then some (.val (.tup (a ++ b))) else none
  | .Sub, .int i, .int j => some (.val (.int (i - j)))
  | .Mult, .int i, .int j => if mulOk i j then some (.val (.int (i * j))) else none
  | .Mult, .lst a, .int j => if 0 ≤ j ∧ j ≤ 16777216 ∧ a.length * j.toNat ≤ line then some (.fresh (.lst (List.replicate j.toNat a).flatten)) else none
  | .FloorDiv, .int i, .int j => if 0 < j ∧ j.natAbs.log2 < 9000 then some (.val (.int (i / j))) else none
  | .Mod, .int i, .int j => if 0 < j then some (.val (.int (i % j))) else none
  | .Pow, .int i, .int j => if 0 ≤ j ∧ ((bits i : Int)) * j ≤ 134217728 then some (.val (.int (i ^ j.toNat))) else none
  | _, _, _ => none
def shp (d : PyData) : Bool := d.canLay0 && decide (d.depth ≤ 64)
def eqD (x y : D) : Option Bool :=
  match toPy x, toPy y with
  | some p, some q => if shp p && shp q then some (PyData.eqv p q) else none
  | _, _ => none
def inD (x : D) (ds : List D) : Option Bool :=
  match toPy x, toPys ds with
  | some p, some qs => if shp p && shp (.list qs) then some (qs.any fun z => PyData.eqv z p) else none
  | _, _ => none
def ltInts : List D → List D → Option Bool
  | [], [] => some false
  | [], .int _ :: _ => some true
  | .int _ :: _, [] => some false
  | .int i :: r, .int j :: q => if i < j then some true else if j < i then some false else ltInts r q
  | _, _ => none
def cmpD : CmpOp → D → D → Option Bool
  | .Lt, .int i, .int j => some (decide (i < j))
  | .LtE, .int i, .int j => some (decide (i ≤ j))
  | .Gt, .int i, .int j => some (decide (j < i))
  | .GtE, .int i, .int j => some (decide (j ≤ i))
  | .Eq, x, y => eqD x y
  | .NotEq, x, y => (eqD x y).map (!·)
  | .In, x, .lst ds => inD x ds
  | .In, x, .tup ds => inD x ds
  | .NotIn, x, .lst ds => (inD x ds).map (!·)
  | .NotIn, x, .tup ds => (inD x ds).map (!·)
  | .Is, x, .non => match x with | .non => some true | _ => some false
  | .IsNot, x, .non => match x with | .non => some false | _ => some true
  | _, _, _ => none
/-- truth of a readable thing -/
def truD : D → Option Bool
  | .non => some false
  | .bl b => some b
  | .int i => some (i != 0)
  | .str x => if x.length ≤ line then some ((x.length : Int) != 0) else none
  | .lst ds => some (!ds.isEmpty)
  | .tup ds => some (!ds.isEmpty)
  | _ => none
def lenD : D → Option Nat
  | .scr ns => some ns.length
  | .str x => some x.length
  | .lst ds => some ds.length
  | .tup ds => some ds.length
  | _ => none
/-- the kinds of values that isinstance tells apart -/
inductive Ty where
  | int | bool | str | list | tuple | own (c : Str)
  deriving DecidableEq
def noInst : D → Bool
  | .obj _ _ _ => false
  | .cell _ => false
  | .scr _ => false
  | _ => true
def isTy (x : D) : Ty → Option Bool
  | .int => if noInst x then some (match x with | .int _ => true | .bl _ => true | _ => false) else none
  | .bool => if noInst x then some (match x with | .bl _ => true | _ => false) else none
  | .str => if noInst x then some (match x with | .str _ => true | _ => false) else none
  | .list => if noInst x then some (match x with | .lst _ => true | _ => false) else none
  | .tuple => if noInst x then some (match x with | .tup _ => true | _ => false) else none
  | .own _ => none
end Iv
set_option linter.all false
set_option autoImplicit false
/-! Iv2: the small syntax and its semantics. -/
namespace Iv
open PySem (Str Expr Stmt CmpOp Operator BoolOp PyData)

inductive Tg where
  | nm (i : Nat) | tup (is : List Nat)
inductive B1 where
  | len | int | abs | list | tuple | sorted
  deriving DecidableEq
inductive B2 where
  | max | min
  deriving DecidableEq
/-- methods of built-in types -/
inductive Mt where
  | append | pop0 | dget | dpop
  deriving DecidableEq
mutual
inductive T where
  | nm (i : Nat) | mv (i : Nat)
  | int (i : Int) | str (x : Str) | bl (b : Bool) | non
  | glob (x : Str)
  | bin (op : Operator) (a b : T)
  | neg (a : T)
  | cmp (op : CmpOp) (a b : T)
  | chain (o1 o2 : CmpOp) (a b c : T)
  | bop (op : BoolOp) (es : Ts)
  | not (a : T)
  | ite (c a b : T)
  | lst (es : Ts) | tup (es : Ts)
  | sub (a i : T)
  | slc (a lo hi : T) | absent
  | b1 (f : B1) (a : T) | b2 (f : B2) (a b : T)
  | isi (a : T) (tys : List Ty)
  | call (f : Nat) (as : Ts) (dd : List D)
  | rf (i : Nat) | ln (i : Nat)
  | meth (m : Mt) (o : T) (as : Ts)
  | omet (c : Str) (o : T) (m : Str) (as : Ts) (dd : List D)
  | ocon (c : Str) (x o : T)
  | mk (c : Str) (as : Ts) (dd : List D)
  | attr (o : T) (f : Str)
  | dict0 (tk : Bool)
  | lc (tg : Tg) (it : It) (cnd : Ts) (e : T)
inductive It where
  | seq (t : T) | rng1 (a : T) | rng2 (a b : T) | zip (a b : T) | enum (a : T)
inductive Ts where
  | nil | cons (t : T) (ts : Ts)
end
mutual
inductive S where
  | asg (tg : Tg) (fr : Bool) (t : T)
  | setSub (o i v : T)
  | setAttr (o : T) (f : Str) (v : T)
  | aug (i : Nat) (op : Operator) (t : T)
  | expr (t : T)
  | ite (c : T) (a b : Ss)
  | for_ (tg : Tg) (it : It) (body : Ss)
  | whl (fuel : Nat) (c : T) (body : Ss)
  | ret (t : T) | retN
  | pass | brk | cnt
  | frz (i : Nat)
inductive Ss where
  | nil | cons (s : S) (ss : Ss)
end

inductive Arg where
  | v (d : D) | r (c : C)
/-- what the semantics knows of the program -/
structure Pg where
  fld : Str → Str → Bool
  call : Nat → List Arg → List Inst → Option (Out Res × List C × List Inst)
  glob : Str → Option D
  meth : Str → Str → Option Nat
  init : Str → Option Nat
  make : Nat → List Arg → List Inst → Option (Out Res × List C × List Inst)
/-- an __init__ runs one level deeper -/
def Pg.mk1 (P : Pg) : Pg := { P with call := P.make }

/-! ### small steps -/
def isRef : Sl → Bool
  | .ref _ => true
  | .lck _ _ => true
  | _ => false
def setSl (g : Sg) (i : Nat) (s : Sl) : Option Sg :=
  match g.rho[i]? with
  | some t => if isRef t then none else some { g with rho := g.rho.set i s }
  | none => none
def setMany : Sg → List Nat → List D → Option Sg
  | g, [], [] => some g
  | g, i :: is, d :: ds => match setSl g i (.val d) with
    | some g' => setMany g' is ds
    | none => none
  | _, _, _ => none
def bindTg (tg : Tg) (d : D) (g : Sg) : Option Sg :=
  match tg with
  | .nm i => setSl g i (.val d)
  | .tup is => match d with
    | .tup ds => setMany g is ds
    | _ => none
def Tg.slots : Tg → List Nat
  | .nm i => [i]
  | .tup is => is
def wipeS (rho : List Sl) : List Nat → List Sl
  | [] => rho
  | i :: is => (wipeS rho is).set i .un
/-- the slots is of rho as they stand in old -/
def backS (old rho : List Sl) : List Nat → List Sl
  | [] => rho
  | i :: is => (backS old rho is).set i (old.getD i .un)
def lock (l : Option Nat) (g : Sg) : Sg :=
  match l with
  | none => g
  | some i => match g.rho[i]? with
    | some (.own c) => { g with rho := g.rho.set i (.lck false c) }
    | some (.ref c) => { g with rho := g.rho.set i (.lck true c) }
    | _ => g
def unlock (l : Option Nat) (g : Sg) : Sg :=
  match l with
  | none => g
  | some i => match g.rho[i]? with
    | some (.lck false c) => { g with rho := g.rho.set i (.own c) }
    | some (.lck true c) => { g with rho := g.rho.set i (.ref c) }
    | _ => g
/-- which slot is walked (already locked ones stay) -/
def lockOf (g : Sg) : Res → Option (Option Nat)
  | .val _ => some none
  | .fresh _ => some none
  | .brw (.slot i) => match g.rho[i]? with
    | some (.own _) => some (some i)
    | some (.ref _) => some (some i)
    | some (.lck _ _) => some none
    | _ => none
  | .brw _ => none
def liftO {α : Type} (f : Sg → Option α) : M α := fun g =>
  match f g with
  | some a => some (.ok a, g)
  | none => none
def seqD : D → Option (List D)
  | .scr ns => some (ns.map .int)
  | .lst ds => some ds
  | .tup ds => some ds
  | _ => none

/-! ### built-in functions on readable things -/
def keyD : D → Option Key
  | .int i => some (.inl i)
  | .str x => some (.inr x)
  | _ => none
def keysD : List D → Option (List Key)
  | [] => some []
  | d :: ds => match keyD d, keysD ds with
    | some k, some ks => some (k :: ks)
    | _, _ => none
def kD : Key → D
  | .inl i => .int i
  | .inr x => .str x
def look {κ : Type} [DecidableEq κ] (k : κ) (kvs : List (κ × D)) : Option D := (kvs.find? fun kv => decide (kv.1 = k)).map (·.2)
def putK {κ : Type} [DecidableEq κ] (k : κ) (d : D) (kvs : List (κ × D)) : List (κ × D) :=
  if (kvs.any fun kv => decide (kv.1 = k)) = true then kvs.map (fun kv => if kv.1 = k then (kv.1, d) else kv) else kvs ++ [(k, d)]
def delK {κ : Type} [DecidableEq κ] (k : κ) (kvs : List (κ × D)) : List (κ × D) := kvs.filter fun kv => decide (kv.1 ≠ k)
/-- a datum, its order -/
def py (d : D) : PyData := (toPy d).getD .none
def leP (a b : PyData) : Bool := !PySem.W.dataLt b a
def leD (a b : D) : Bool := leP (py a) (py b)
def neTup : PyData → Bool
  | .tuple (_ :: _) => true
  | _ => false
def notNone : PyData → Bool
  | .none => false
  | _ => true
def noTup : PyData → Bool
  | .tuple _ => false
  | .none => false
  | _ => true
def sortable (ps : List PyData) : Bool := (ps.all fun d => ps.all fun e => PySem.W.alike d e) && (ps.all fun d => decide (d.depth ≤ 64)) && ((decide (ps.length ≤ 1) && ps.all notNone) || ps.all neTup || ps.all noTup)
def sortD (ds : List D) : Option (List D) :=
  match toPys ds with
  | some ps => if sortable ps && decide (ds.length ≤ line) then some (ds.mergeSort leD) else none
  | none => none
def b1D (f : B1) (x : D) : Option Res :=
  match f, x with
  | .len, x => (lenD x).bind fun n => if n ≤ line then some (.val (.int n)) else none
  | .int, .int i => some (.val (.int i))
  | .int, .bl b => some (.val (.int (if b then 1 else 0)))
  | .abs, .int i => some (.val (.int (if i < 0 then -i else i)))
  | .list, .lst ds => some (.fresh (.lst ds))
  | .list, .tup ds => some (.fresh (.lst ds))
  | .tuple, .lst ds => some (.val (.tup ds))
  | .tuple, .tup ds => some (.val (.tup ds))
  | .sorted, .lst ds => (sortD ds).map fun r => .fresh (.lst r)
  | _, _ => none
def b2D (f : B2) (x y : D) : Option Res :=
  match f, x, y with
  | .max, .int i, .int j => some (.val (.int (if j > i then j else i)))
  | .min, .int i, .int j => some (.val (.int (if j < i then j else i)))
  | _, _, _ => none
def subD (x i : D) : Option Res :=
  match x, i with
  | .lst ds, .int i => (ixD ds i).map .val
  | .tup ds, .int i => (ixD ds i).map .val
  | .str x, .int i => if x.length ≤ line then (ixD x.cps.toList i).map fun c => .val (.str ⟨#[c]⟩) else none
  | _, _ => none
/-- a slice's bound: absent, or an int -/
def slcD (x : D) (lo hi : Option Int) : Option Res :=
  match x with
  | .lst ds => some (.fresh (.lst (cutD ds lo hi)))
  | .tup ds => some (.val (.tup (cutD ds lo hi)))
  | .str x => if x.length ≤ line then some (.val (.str ⟨(cutD x.cps.toList lo hi).toArray⟩)) else none
  | _ => none
def rngD (lo hi : Int) : Option (List D) :=
  if -(4611686018427387904) ≤ lo ∧ lo < 4611686018427387904 ∧ -(4611686018427387904) ≤ hi ∧ hi < 4611686018427387904 then
    some ((List.range (hi - lo).toNat).map fun (i : Nat) => D.int (lo + (i : Int))) else none
def enumD (k : Nat) : List D → List D
  | [] => []
  | d :: ds => .tup [.int k, d] :: enumD (k + 1) ds
def zipD : List D → List D → List D
  | a :: as, b :: bs => .tup [a, b] :: zipD as bs
  | _, _ => []
/-- a result taken as a value -/
def takeM (m : M Res) : M D := bnd m fun r => liftO fun _ => r.take
/-- a method of a built-in type: the receiver, the arguments -/
def methD (m : Mt) (o : Res) (as : List D) (g : Sg) : Option (Res × Sg) :=
  match o with
  | .brw p => match m, as, cont g p with
    | .append, [d], some (.lst ds) => if ds.length < line then (setC g p (.lst (ds ++ [d]))).map fun g' => (.val .non, g') else none
    | .pop0, [], some (.lst ds) => match ds.getLast? with
      | some d => (setC g p (.lst ds.dropLast)).map fun g' => (.val d, g')
      | none => none
    | .dget, [k, e], some (.dK kvs) => (keyD k).map fun k => (.val ((look k kvs).getD e), g)
    | .dget, [.tup ks, e], some (.dT kvs) => (keysD ks).map fun k => (.val ((look k kvs).getD e), g)
    | .dpop, [.tup ks, e], some (.dT kvs) => (keysD ks).bind fun k => (setC g p (.dT (delK k kvs))).map fun g' => (.val ((look k kvs).getD e), g')
    | _, _, _ => none
  | _ => none
/-- x in a container -/
def inC (x : D) : C → Option Bool
  | .lst ds => inD x ds
  | .dK kvs => (keyD x).map fun k => (look k kvs).isSome
  | .dT kvs => match x with
    | .tup ks => (keysD ks).map fun k => (look k kvs).isSome
    | _ => none
def cmpR (op : CmpOp) (x y : Res) (g : Sg) : Option Bool :=
  match op, cview g y with
  | .In, some (.dK kvs) => (dview g x).bind fun d => inC d (.dK kvs)
  | .In, some (.dT kvs) => (dview g x).bind fun d => inC d (.dT kvs)
  | .NotIn, some (.dK kvs) => (dview g x).bind fun d => (inC d (.dK kvs)).map (!·)
  | .NotIn, some (.dT kvs) => (dview g x).bind fun d => (inC d (.dT kvs)).map (!·)
  | op, _ => match dview g x, dview g y with
    | some a, some b => cmpD op a b
    | _, _ => none
/-- o[i] = v -/
def setSubD (o : Res) (i v : D) (g : Sg) : Option Sg :=
  match o with
  | .brw p => match cont g p, i with
    | some (.lst ds), .int i => (ixN ds.length i).bind fun j => setC g p (.lst (ds.set j v))
    | some (.dK kvs), i => (keyD i).bind fun k => if kvs.length < line then setC g p (.dK (putK k v kvs)) else none
    | some (.dT kvs), .tup ks => (keysD ks).bind fun k => if kvs.length < line then setC g p (.dT (putK k v kvs)) else none
    | _, _ => none
  | _ => none
def oget (f : Str) : List Str → List D → Option D
  | n :: ns, d :: ds => if n = f then some d else oget f ns ds
  | _, _ => none
def attrD (P : Pg) (o : D) (f : Str) (g : Sg) : Option Res :=
  match o with
  | .obj c ns ds => if P.fld c f then (oget f ns ds).map .val else none
  | .cell n => match g.cs[n]? with
    | some I => if P.fld I.c f then (match fget f I.fs with
      | some (.val d) => some (.val d)
      | some (.own _) => some (.brw (.fld n f))
      | _ => none) else none
    | none => none
  | _ => none
def isCont : Sl → Bool
  | .own _ => true
  | .ref _ => true
  | .lck _ _ => true
  | _ => false
/-- a container that a field owns stays its own -/
def noCont (f : Str) (fs : List (Str × Sl)) : Bool := fs.all fun p => !isCont p.2 || decide (p.1 ≠ f)
def setAttrD (P : Pg) (n : Nat) (f : Str) (s : Sl) (g : Sg) : Option Sg :=
  match g.cs[n]? with
  | some I => if P.fld I.c f && decide (I.fs.length < 1000) && noCont f I.fs then some { g with cs := g.cs.set n { I with fs := fput f s I.fs } } else none
  | none => none
def clsOf (o : D) (g : Sg) : Option Str :=
  match o with
  | .obj c _ _ => some c
  | .cell n => (g.cs[n]?).map (·.c)
  | _ => none

/-! ### arguments: which of them are lent -/
/-- the places of the by-reference arguments are given their new contents -/
def writeBack : Sg → List Nat → List C → Option Sg
  | g, [], [] => some g
  | g, i :: is, c :: cs => match setC g (.slot i) c with
    | some g' => writeBack g' is cs
    | none => none
  | _, _, _ => none
inductive Ar where
  | v (d : D) | r (i : Nat) | l (i : Nat)
def Ar.arg (g : Sg) : Ar → Option Arg
  | .v z => some (.v z)
  | .r i => match g.rho[i]? with
    | some (.own c) => some (.r c)
    | some (.ref c) => some (.r c)
    | _ => none
  | .l i => match g.rho[i]? with
    | some s => match s.cont with
      | some (.lst ds) => some (.v (.lst ds))
      | _ => none
    | _ => none
def argsOf (g : Sg) : List Ar → Option (List Arg)
  | [] => some []
  | a :: as => match a.arg g, argsOf g as with
    | some x, some xs => some (x :: xs)
    | _, _ => none
def refsOf : List Ar → List Nat
  | [] => []
  | .r i :: as => i :: refsOf as
  | _ :: as => refsOf as
def hasLent : List Ar → Bool
  | [] => false
  | .l _ :: _ => true
  | _ :: as => hasLent as
def nfArgs : List Arg → Bool
  | [] => true
  | .v d :: as => nf d && nfArgs as
  | .r _ :: _ => false
/-- a container stands in the slot -/
def chkC (i : Nat) : M Unit := liftO fun g => (cont g (.slot i)).map fun _ => ()
/-- the receiver is a container of that kind -/
def chkM (m : Mt) (x : Res) : M Unit := liftO fun g => match x with
  | .brw p => match m, cont g p with
    | .append, some (.lst _) => some ()
    | .pop0, some (.lst _) => some ()
    | .dget, some (.dK _) => some ()
    | .dget, some (.dT _) => some ()
    | .dpop, some (.dT _) => some ()
    | _, _ => none
  | _ => none
/-- an instance (that may change) of this class -/
def chkI (c m : Str) (x : Res) : M Nat := liftO fun g => match x with
  | .val (.cell n) => (g.cs[n]?).bind fun I => if I.c = c ∧ (fget m I.fs).isNone = true then some n else none
  | _ => none
/-- the call of a def of the program -/
def callM (P : Pg) (f : Nat) (as : List Ar) : M Res := fun g =>
  match argsOf g as with
  | none => none
  | some xs =>
    if hasLent as then
      if nfArgs xs then
        match P.call f xs [] with
        | some (.ok (.val d), [], _) => if flat d then some (.ok (.val d), g) else none
        | _ => none
      else none
    else
      match P.call f xs g.cs with
      | some (o, outs, cs') =>
        if (refsOf as).Nodup then
          match writeBack { g with cs := cs' } (refsOf as) outs with
          | some g' => match o with
            | .ok (.brw _) => none
            | .ok r => some (.ok r, g')
            | .exc x => some (.exc x, g')
          | none => none
        else none
      | none => none

/-! ### loops -/
def loopC (f : D → M (Option D)) : List D → List D → M (List D)
  | acc, [] => ret acc
  | acc, d :: ds => bnd (f d) fun r =>
    match r with
    | some y => if acc.length < line then loopC f (acc ++ [y]) ds else fun _ => none
    | none => loopC f acc ds
inductive Flow where
  | next | brk | cnt | ret (r : Res)
def loopW (c : M Bool) (body : M Flow) : Nat → M Flow
  | 0 => fun _ => none
  | n + 1 => bnd c fun b => if b then bnd body fun fl => (match fl with
      | .next => loopW c body n
      | .cnt => loopW c body n
      | .brk => Iv.ret .next
      | .ret r => Iv.ret (.ret r)) else Iv.ret .next
def loopS (tg : Tg) (body : M Flow) : List D → M Flow
  | [] => Iv.ret .next
  | d :: ds => fun g => match bindTg tg d g with
    | none => none
    | some g' => bnd body (fun fl => match fl with
      | .next => loopS tg body ds
      | .cnt => loopS tg body ds
      | .brk => Iv.ret .next
      | .ret r => Iv.ret (.ret r)) g'

/-! ### the semantics -/
variable (P : Pg)
/-- a readable result's truth -/
def truR (r : Res) : M Bool := liftO fun g => match r with
  | .brw p => match cont g p with
    | some (.lst ds) => some (!ds.isEmpty)
    | some (.dK kvs) => some (!kvs.isEmpty)
    | _ => none
  | r => (dview g r).bind truD
def noex {α : Type} (m : M α) : M α := fun g => match m g with
  | some (.ok a, g') => some (.ok a, g')
  | _ => none
mutual
def ev : T → M Res
  | .nm i => liftO fun g => match g.rho[i]? with
    | some (.val d) => some (.val d)
    | some s => s.cont.map fun _ => .brw (.slot i)
    | none => none
  | .mv i => fun g => match g.rho[i]? with
    | some (.own c) => some (.ok (.fresh c), { g with rho := g.rho.set i .un })
    | _ => none
  | .int i => ret (.val (.int i))
  | .str x => ret (.val (.str x))
  | .bl b => ret (.val (.bl b))
  | .non => ret (.val .non)
  | .glob x => liftO fun _ => (P.glob x).map .val
  | .bin op a b => bnd (ev a) fun x => bnd (ev b) fun y => liftO fun g => match dview g x, dview g y with
    | some d, some e => binD op d e
    | _, _ => none
  | .neg a => bnd (ev a) fun x => liftO fun g => match dview g x with
    | some (.int i) => some (.val (.int (-i)))
    | _ => none
  | .cmp op a b => bnd (ev a) fun x => bnd (ev b) fun y => liftO fun g => (cmpR op x y g).map fun b => .val (.bl b)
  | .chain o1 o2 a b c => bnd (ev a) fun x => bnd (ev b) fun y => bnd (liftO (cmpR o1 x y)) fun t =>
      if t then bnd (ev c) fun z => liftO fun g => (cmpR o2 y z g).map fun b => .val (.bl b) else ret (.val (.bl false))
  | .bop op es => bops op es
  | .not a => bnd (ev a) fun x => bnd (truR x) fun b => ret (.val (.bl (!b)))
  | .ite c a b => bnd (tst c) fun t => if t then ev a else ev b
  | .lst es => bnd (evs es) fun ds => liftO fun _ => if ds.length ≤ line then some (.fresh (.lst ds)) else none
  | .tup es => bnd (evs es) fun ds => liftO fun _ => if ds.length ≤ line then some (.val (.tup ds)) else none
  | .sub a i => bnd (ev a) fun x => bnd (ev i) fun y => liftO fun g => match dview g x, dview g y with
    | some d, some e => subD d e
    | _, _ => none
  | .slc a lo hi => bnd (ev a) fun x => bnd (bound lo) fun l => bnd (bound hi) fun h => liftO fun g => match dview g x with
    | some d => slcD d l h
    | none => none
  | .absent => fun _ => none
  | .b1 f a => bnd (ev a) fun x => liftO fun g => match f, cview g x with
    | .list, some (.dT kvs) => some (.fresh (.lst (kvs.map fun p => .tup (p.1.map kD))))
    | f, _ => match dview g x with
      | some d => b1D f d
      | none => none
  | .b2 f a b => bnd (ev a) fun x => bnd (ev b) fun y => liftO fun g => match dview g x, dview g y with
    | some d, some e => b2D f d e
    | _, _ => none
  | .isi a tys => bnd (ev a) fun x => liftO fun g => match dview g x with
    | some d => (tys.foldr (fun t acc => match isTy d t, acc with | some b, some c => some (b || c) | _, _ => none) (some false)).map fun b => .val (.bl b)
    | none => none
  | .call f as dd => bnd (args as) fun xs => callM P f (xs ++ dd.map .v)
  | .rf _ => fun _ => none
  | .ln _ => fun _ => none
  | .meth m o as => bnd (ev o) fun x => bnd (chkM m x) fun _ => bnd (evs as) fun rs => fun g => match methD m x rs g with
    | some (r, g') => some (.ok r, g')
    | none => none
  | .omet c o m as dd => bnd (ev o) fun x => bnd (chkI c m x) fun n => bnd (args as) fun xs => match P.meth c m with
      | some f => callM P f (.v (.cell n) :: (xs ++ dd.map .v))
      | none => fun _ => none
  | .ocon c x o => bnd (takeM (ev x)) fun e => bnd (ev o) fun z => bnd (chkI c (Str.ofString "__contains__") z) fun n => match P.meth c (Str.ofString "__contains__") with
      | some f => bnd (callM P f [.v (.cell n), .v e]) fun r => liftO fun _ => match r with
        | .val (.bl b) => some (.val (.bl b))
        | _ => none
      | none => fun _ => none
  | .mk c as dd => bnd (args as) fun xs => fun g => match P.init c with
    | some f => match callM P.mk1 f (.v (.cell g.cs.length) :: (xs ++ dd.map .v)) { g with cs := g.cs ++ [⟨c, []⟩] } with
      | some (.ok (.val .non), g') => some (.ok (.val (.cell g.cs.length)), g')
      | some (.exc x, g') => some (.exc x, g')
      | _ => none
    | none => none
  | .attr o f => bnd (ev o) fun x => liftO fun g => match x with
    | .val d => attrD P d f g
    | _ => none
  | .dict0 tk => ret (.fresh (if tk then .dT [] else .dK []))
  | .lc tg it cnd e => bnd (items it) fun (p : List D × Option Nat) => fun g =>
      if tg.slots.all (fun i => (cont g (.slot i)).isNone) then
        match loopC (fun d => noex fun g => match bindTg tg d g with
            | none => none
            | some g' => bnd (conds cnd) (fun b => if b then bnd (takeM (ev e)) (fun y =>
                fun g2 => some (.ok (some y), { g2 with rho := wipeS g2.rho tg.slots })) else fun g2 => some (.ok none, { g2 with rho := wipeS g2.rho tg.slots })) g') [] p.1
          { (lock p.2 g) with rho := wipeS (lock p.2 g).rho tg.slots } with
        | some (.ok ds, g') => some (.ok (.fresh (.lst ds)), unlock p.2 { g' with rho := backS (lock p.2 g).rho g'.rho tg.slots })
        | _ => none
      else none
def conds : Ts → M Bool
  | .nil => ret true
  | .cons c _ => tst c
def bops (op : BoolOp) : Ts → M Res
  | .nil => fun _ => none
  | .cons a as => match as with
    | .nil => ev a
    | .cons b bs => bnd (ev a) fun x => bnd (truR x) fun t => match op, t with
      | .And, true => bops op (.cons b bs)
      | .Or, false => bops op (.cons b bs)
      | _, _ => (match x with
        | .brw _ => fun _ => none
        | x => ret x)
def bopt (op : BoolOp) : Ts → M Bool
  | .nil => fun _ => none
  | .cons a as => match as with
    | .nil => tst a
    | .cons b bs => bnd (tst a) fun t => match op, t with
      | .And, true => bopt op (.cons b bs)
      | .Or, false => bopt op (.cons b bs)
      | _, t => ret t
/-- a test -/
def tst : T → M Bool
  | .not a => bnd (tst a) fun b => ret (!b)
  | .bop op es => bopt op es
  | .cmp op a b => bnd (ev a) fun x => bnd (ev b) fun y => liftO fun g => cmpR op x y g
  | t => bnd (ev t) truR
def bound : T → M (Option Int)
  | .absent => ret none
  | t => bnd (ev t) fun r => liftO fun g => match dview g r with
    | some (.int i) => some (some i)
    | _ => none
def evs : Ts → M (List D)
  | .nil => ret []
  | .cons t ts => bnd (takeM (ev t)) fun d => bnd (evs ts) fun ds => ret (d :: ds)
def args : Ts → M (List Ar)
  | .nil => ret []
  | .cons t ts => match t with
    | .rf i => bnd (chkC i) fun _ => bnd (args ts) fun xs => ret (.r i :: xs)
    | .ln i => bnd (chkC i) fun _ => bnd (args ts) fun xs => ret (.l i :: xs)
    | t => bnd (takeM (ev t)) fun r => bnd (args ts) fun xs => ret (.v r :: xs)
def items : It → M (List D × Option Nat)
  | .seq t => bnd (ev t) fun r => liftO fun g => match (dview g r).bind seqD, lockOf g r with
    | some ds, some l => some (ds, l)
    | _, _ => none
  | .rng1 a => bnd (ev a) fun x => liftO fun g => match dview g x with
    | some (.int n) => (rngD 0 n).map fun ds => (ds, none)
    | _ => none
  | .rng2 a b => bnd (ev a) fun x => bnd (ev b) fun y => liftO fun g => match dview g x, dview g y with
    | some (.int m), some (.int n) => (rngD m n).map fun ds => (ds, none)
    | _, _ => none
  | .zip _ _ => fun _ => none
  | .enum _ => fun _ => none
end

/-! ### statements -/
def put (tg : Tg) (fr : Bool) (r : Res) : Sg → Option Sg := fun g =>
  match r with
  | .val d => bindTg tg d g
  | .fresh c => match tg with
    | .nm i => if fr then (match c with
        | .lst ds => setSl g i (.val (.lst ds))
        | _ => none) else setSl g i (.own c)
    | .tup _ => none
  | .brw _ => none
def augD : Operator → D → D → Option D
  | .Add, .int i, .int j => some (.int (i + j))
  | .Sub, .int i, .int j => some (.int (i - j))
  | .Add, .str x, .str y => if x.length + y.length ≤ line then some (.str (x ++ y)) else none
  | _, _, _ => none
def doS (f : Sg → Option Sg) : M Flow := fun g => match f g with
  | some g' => some (.ok .next, g')
  | none => none
def frzS (i : Nat) (g : Sg) : Option Sg := match g.rho[i]? with
  | some (.own (.lst ds)) => some { g with rho := g.rho.set i (.val (.lst ds)) }
  | _ => none
def Res.sl : Res → Option Sl
  | .val d => some (.val d)
  | .fresh c => some (.own c)
  | .brw _ => none
mutual
def ex : S → M Flow
  | .asg tg fr t => bnd (ev P t) fun r => doS (put tg fr r)
  | .setSub o i v => bnd (takeM (ev P v)) fun d => bnd (ev P o) fun x => bnd (takeM (ev P i)) fun k => doS fun g => setSubD x k d g
  | .setAttr o f v => bnd (ev P v) fun r => bnd (ev P o) fun x => doS fun g =>
      match x, r.sl with
      | .val (.cell n), some s => setAttrD P n f s g
      | _, _ => none
  | .aug i op t => bnd (ev P (.nm i)) fun x => bnd (ev P t) fun y => doS fun g => match x, dview g y with
      | .val d, some e => match augD op d e with
        | some z => setSl g i (.val z)
        | none => none
      | _, _ => none
  | .expr t => bnd (ev P t) fun _ => ret .next
  | .ite c a b => bnd (tst P c) fun t => if t then exs a else exs b
  | .for_ tg it body => bnd (items P it) fun p => fun g =>
      match loopS tg (exs body) p.1 (lock p.2 g) with
      | some (o, g') => some (o, unlock p.2 g')
      | none => none
  | .whl fuel c body => loopW (tst P c) (exs body) fuel
  | .ret t => bnd (ev P t) fun r => match r with
      | .brw _ => fun _ => none
      | r => ret (.ret r)
  | .retN => ret (.ret (.val .non))
  | .pass => ret .next
  | .brk => ret .brk
  | .cnt => ret .cnt
  | .frz i => doS (frzS i)
def exs : Ss → M Flow
  | .nil => ret .next
  | .cons s ss => bnd (ex s) fun fl => match fl with
    | .next => exs ss
    | fl => ret fl
end

/-! ### a whole program -/
structure Fn where
  np : Nat        -- parameters
  nn : Nat        -- slots
  body : Ss
def initRho (n : Nat) (as : List Arg) : List Sl :=
  as.map (fun a => match a with | .v d => Sl.val d | .r c => Sl.ref c) ++ List.replicate (n - as.length) .un
/-- the lent parameters' contents at the end -/
def outsOf (g : Sg) : Nat → List Arg → Option (List C)
  | _, [] => some []
  | i, .v _ :: as => outsOf g (i + 1) as
  | i, .r _ :: as => match g.rho[i]?, outsOf g (i + 1) as with
    | some (.ref c), some cs => some (c :: cs)
    | _, _ => none
structure Prog where
  fns : List Fn
  fld : Str → Str → Bool
  glob : Str → Option D
  meth : Str → Str → Option Nat
  init : Str → Option Nat
  fnOf : Str → Option Nat
  free : Str → Bool
abbrev CallF := Nat → List Arg → List Inst → Option (Out Res × List C × List Inst)
def Prog.pg (p : Prog) (call make : CallF) : Pg := ⟨p.fld, call, p.glob, p.meth, p.init, make⟩
def callFn (P : Pg) (F : Fn) (as : List Arg) (cs : List Inst) : Option (Out Res × List C × List Inst) :=
  if as.length = F.np then
    match exs P F.body ⟨initRho F.nn as, cs⟩ with
    | some (o, g') => match outsOf g' 0 as with
      | some outs => match o with
        | .ok (.ret r) => some (.ok r, outs, g'.cs)
        | .ok .next => some (.ok (.val .non), outs, g'.cs)
        | .ok _ => none
        | .exc x => some (.exc x, outs, g'.cs)
      | none => none
    | none => none
  else none
def run (p : Prog) : Nat → CallF
  | 0 => fun _ _ _ => none
  | 1 => fun _ _ _ => none
  | k + 2 => fun f as cs => match p.fns[f]? with
    | some F => callFn (p.pg (run p (k + 1)) (run p k)) F as cs
    | none => none
end Iv
set_option linter.all false
set_option autoImplicit false
set_option maxRecDepth 100000
/-! Iv3: how the values of Iv lie in a heap. -/
namespace Iv
open PySem (Str Expr Stmt CmpOp Operator BoolOp PyData Addr Value Scope)
open L2 (V HO Hp upd upd_same upd_ne ne_of ne_of_none SqL SqT Rd Same)

inductive PlX where
  | slot (i : Nat) | fld (n : Nat) (f : Str) | ins (n : Nat)
  deriving DecidableEq
def Pl.x : Pl → PlX
  | .slot i => .slot i
  | .fld n f => .fld n f
structure Gh where
  G : Hp
  adr : PlX → Addr
  nc : Nat
structure Cfg where
  g : Sg
  S : Gh
  H : Hp
structure Tx where
  K : PySem.W.Frag
  mg : Str → Option Value

def Live (g : Sg) : PlX → Prop
  | .slot i => ∃ c, cont g (.slot i) = some c
  | .fld n f => ∃ c, cont g (.fld n f) = some c
  | .ins n => n < g.cs.length

mutual
def R (X : Tx) (S : Gh) : D → V → Prop
  | .non, v => v = .non
  | .bl b, v => v = .bl b
  | .int i, v => v = .int i
  | .str x, v => v = .str x
  | .lst ds, v => ∃ a xs, v = .ref a ∧ S.G a = some (.lst xs) ∧ RL X S ds xs
  | .tup ds, v => ∃ a xs, v = .ref a ∧ S.G a = some (.tup xs) ∧ RL X S ds xs
  | .obj c ns ds, v => ∃ a Ca dx fs, v = .ref a ∧ S.G a = some (.ins Ca dx fs) ∧ X.mg c = some (.ref Ca) ∧ fs.map (·.1) = ns ∧ RL X S ds (fs.map (·.2))
  | .cell n, v => v = .ref (S.adr (.ins n)) ∧ n < S.nc
  | .scr ns, v => ∃ a, v = .ref a ∧ SqL X.K S.G a (ns.map V.int)
def RL (X : Tx) (S : Gh) : List D → List V → Prop
  | [], vs => vs = []
  | d :: ds, vs => ∃ v r, vs = v :: r ∧ R X S d v ∧ RL X S ds r
end
def KR {κ : Type} (X : Tx) (S : Gh) : List (κ × D) → List (κ × V) → Prop
  | [], vs => vs = []
  | (k, d) :: ds, vs => ∃ v r, vs = (k, v) :: r ∧ R X S d v ∧ KR X S ds r
def CR (X : Tx) (S : Gh) (H : Hp) (a : Addr) : C → Prop
  | .lst ds => ∃ xs, H a = some (.lst xs) ∧ RL X S ds xs
  | .dK kvs => ∃ xs, H a = some (.dK xs) ∧ KR X S kvs xs
  | .dT kvs => ∃ xs, H a = some (.dT xs) ∧ KR X S kvs xs
def FR (X : Tx) (S : Gh) (n : Nat) : List (Str × Sl) → List (Str × V) → Prop
  | [], vs => vs = []
  | (f, s) :: r, vs => ∃ v q, vs = (f, v) :: q ∧ (match s with
      | .un => False
      | .val d => R X S d v
      | _ => v = .ref (S.adr (.fld n f))) ∧ FR X S n r q

structure Ok (X : Tx) (σ : L2.St) (c : Cfg) : Prop where
  sub : ∀ a o, c.S.G a = some o → c.H a = some o
  len : σ.length = c.g.rho.length
  nc : c.S.nc = c.g.cs.length
  val : ∀ (i : Nat) (d : D), c.g.rho[i]? = some (Sl.val d) → ∃ v, σ[i]? = some (some v) ∧ R X c.S d v
  own : ∀ (i : Nat) (k : C), cont c.g (.slot i) = some k → σ[i]? = some (some (.ref (c.S.adr (.slot i)))) ∧ c.S.G (c.S.adr (.slot i)) = none ∧ CR X c.S c.H (c.S.adr (.slot i)) k
  fld : ∀ (n : Nat) (f : Str) (k : C), cont c.g (.fld n f) = some k → c.S.G (c.S.adr (.fld n f)) = none ∧ CR X c.S c.H (c.S.adr (.fld n f)) k
  ins : ∀ (n : Nat) (I : Inst), c.g.cs[n]? = some I → c.S.G (c.S.adr (.ins n)) = none ∧ ∃ Ca dx fs, X.mg I.c = some (.ref Ca) ∧ c.H (c.S.adr (.ins n)) = some (.ins Ca dx fs) ∧ FR X c.S n I.fs fs
  inj : ∀ p q, Live c.g p → Live c.g q → c.S.adr p = c.S.adr q → p = q

/-- e: within an expression (the slots stay) -/
structure Step (e : Bool) (c c' : Cfg) : Prop where
  G : ∀ a o, c.S.G a = some o → c'.S.G a = some o
  nc : c.S.nc ≤ c'.S.nc
  ia : ∀ n, n < c.S.nc → c'.S.adr (.ins n) = c.S.adr (.ins n)
  trk : ∀ a, c.H a ≠ none → c'.H a ≠ none
  fr : ∀ a o, c.H a = some o → (∀ p, Live c.g p → c.S.adr p ≠ a) → c'.H a = some o ∧ ((∀ xs, o ≠ .tup xs) → c'.S.G a = c.S.G a)
  live : ∀ p, Live c'.g p → (∃ q, Live c.g q ∧ c'.S.adr p = c.S.adr q) ∨ c.H (c'.S.adr p) = none
  fkeep : ∀ n f, Live c.g (.fld n f) → Live c'.g (.fld n f) ∧ c'.S.adr (.fld n f) = c.S.adr (.fld n f)
  slots : e = true → ∀ i, Live c'.g (.slot i) → Live c.g (.slot i) ∧ c'.S.adr (.slot i) = c.S.adr (.slot i)
  ref : ∀ (i : Nat) (k : C), c.g.rho[i]? = some (Sl.ref k) → (∃ k', c'.g.rho[i]? = some (Sl.ref k')) ∧ c'.S.adr (.slot i) = c.S.adr (.slot i)
  lck : ∀ (i : Nat) (b : Bool) (k : C), c.g.rho[i]? = some (Sl.lck b k) → c'.g.rho[i]? = some (Sl.lck b k) ∧ c'.S.adr (.slot i) = c.S.adr (.slot i)
  rlen : c'.g.rho.length = c.g.rho.length

/-- a result r, from the origin c0, at c -/
def RR (X : Tx) (c0 c : Cfg) : Res → V → Prop
  | .val d, v => R X c.S d v
  | .fresh k, v => ∃ a, v = .ref a ∧ c.S.G a = none ∧ CR X c.S c.H a k ∧ (∀ p, Live c.g p → c.S.adr p ≠ a) ∧ (c0.H a = none ∨ ∃ q, Live c0.g q ∧ c0.S.adr q = a)
  | .brw p, v => (Live c.g p.x → v = .ref (c.S.adr p.x)) ∧ (match p with | .slot _ => True | .fld n f => Live c.g (.fld n f))
/-! ### what stays -/
section
variable {X : Tx} {S S' : Gh} {H H' : Hp}
structure Ge (S S' : Gh) : Prop where
  G : ∀ a o, S.G a = some o → S'.G a = some o
  nc : S.nc ≤ S'.nc
  ia : ∀ n, n < S.nc → S'.adr (.ins n) = S.adr (.ins n)
theorem sql_mono {K : PySem.W.Frag} {G G' : Hp} {a : Addr} {xs : List V} (e : ∀ a o, G a = some o → G' a = some o) (h : SqL K G a xs) : SqL K G' a xs := Same.seq e h
theorem sqt_mono {K : PySem.W.Frag} {G G' : Hp} {a : Addr} {xs : List V} (e : ∀ a o, G a = some o → G' a = some o) (h : SqT K G a xs) : SqT K G' a xs := by
  rcases h with (h | ⟨o, h⟩) | h
  · exact .inl (.inl (e _ _ h))
  · exact .inl (.inr ⟨o, e _ _ h⟩)
  · exact .inr h
mutual
theorem R.mono (m : Ge S S') : ∀ (d : D) {v : V}, R X S d v → R X S' d v
  | .non, v, h => by simpa [R] using h
  | .bl b, v, h => by simpa [R] using h
  | .int i, v, h => by simpa [R] using h
  | .str x, v, h => by simpa [R] using h
  | .lst ds, v, h => by
    simp only [R] at h ⊢
    obtain ⟨a, xs, e, s, r⟩ := h
    exact ⟨a, xs, e, m.G _ _ s, RL.mono m ds r⟩
  | .tup ds, v, h => by
    simp only [R] at h ⊢
    obtain ⟨a, xs, e, s, r⟩ := h
    exact ⟨a, xs, e, m.G _ _ s, RL.mono m ds r⟩
  | .obj c ns ds, v, h => by
    simp only [R] at h ⊢
    obtain ⟨a, Ca, dx, fs, e, g, hm, hn, r⟩ := h
    exact ⟨a, Ca, dx, fs, e, m.G _ _ g, hm, hn, RL.mono m ds r⟩
  | .cell n, v, h => by
    simp only [R] at h ⊢
    obtain ⟨e, hn⟩ := h
    exact ⟨by rw [m.ia n hn]; exact e, Nat.lt_of_lt_of_le hn m.nc⟩
  | .scr ns, v, h => by
    simp only [R] at h ⊢
    obtain ⟨a, e, s⟩ := h
    exact ⟨a, e, sql_mono m.G s⟩
theorem RL.mono (m : Ge S S') : ∀ (ds : List D) {vs : List V}, RL X S ds vs → RL X S' ds vs
  | [], vs, h => by simpa only [RL] using h
  | d :: ds, vs, h => by
    simp only [RL] at h ⊢
    obtain ⟨v, r, e, h1, h2⟩ := h
    exact ⟨v, r, e, R.mono m d h1, RL.mono m ds h2⟩
end
theorem KR.mono {κ : Type} (m : Ge S S') : ∀ {ds : List (κ × D)} {vs : List (κ × V)}, KR X S ds vs → KR X S' ds vs
  | [], vs, h => h
  | (k, d) :: ds, vs, h => by
    obtain ⟨v, r, e, h1, h2⟩ := h
    exact ⟨v, r, e, R.mono m d h1, KR.mono m h2⟩
theorem CR.mono (m : Ge S S') {a : Addr} (hH : ∀ o, H a = some o → H' a = some o) : ∀ {c : C}, CR X S H a c → CR X S' H' a c
  | .lst ds, ⟨xs, h, r⟩ => ⟨xs, hH _ h, RL.mono m _ r⟩
  | .dK ds, ⟨xs, h, r⟩ => ⟨xs, hH _ h, KR.mono m r⟩
  | .dT ds, ⟨xs, h, r⟩ => ⟨xs, hH _ h, KR.mono m r⟩
theorem CR.mono' (m : Ge S S') {a : Addr} (hH : H' a = H a) {c : C} (h : CR X S H a c) : CR X S' H' a c := h.mono m fun o ho => hH.trans ho
theorem FR.mono (m : Ge S S') {n : Nat} (hf : ∀ f, S'.adr (.fld n f) = S.adr (.fld n f)) : ∀ {fs : List (Str × Sl)} {vs : List (Str × V)}, FR X S n fs vs → FR X S' n fs vs
  | [], vs, h => h
  | (f, s) :: r, vs, ⟨v, q, e, h1, h2⟩ => by
    refine ⟨v, q, e, ?_, FR.mono m hf h2⟩
    cases s with
    | un => exact h1
    | val d => exact R.mono m d h1
    | own c => exact h1.trans (by rw [hf])
    | ref c => exact h1.trans (by rw [hf])
    | lck b c => exact h1.trans (by rw [hf])
theorem CR.some {a : Addr} : ∀ {c : C}, CR X S H a c → H a ≠ none
  | .lst ds, ⟨xs, h, r⟩ => by rw [h]; exact fun z => nomatch z
  | .dK ds, ⟨xs, h, r⟩ => by rw [h]; exact fun z => nomatch z
  | .dT ds, ⟨xs, h, r⟩ => by rw [h]; exact fun z => nomatch z
theorem CR.notup {a : Addr} {u : HO} : ∀ {c : C}, CR X S H a c → H a = Option.some u → ∀ xs, u ≠ .tup xs
  | .lst ds, ⟨xs, h, r⟩, e, ys => by rw [h] at e; cases e; exact (fun z => nomatch z)
  | .dK ds, ⟨xs, h, r⟩, e, ys => by rw [h] at e; cases e; exact (fun z => nomatch z)
  | .dT ds, ⟨xs, h, r⟩, e, ys => by rw [h] at e; cases e; exact (fun z => nomatch z)
end
variable {X : Tx} {σ : L2.St} {c c0 c1 c2 : Cfg} {e : Bool}
theorem Step.ge (s : Step e c c1) : Ge c.S c1.S := ⟨s.G, s.nc, s.ia⟩
theorem Step.refl : Step e c c := ⟨fun _ _ h => h, Nat.le_refl _, fun _ _ => rfl, fun _ h => h, fun _ _ h _ => ⟨h, fun _ => rfl⟩, fun p h => .inl ⟨p, h, rfl⟩, fun _ _ h => ⟨h, rfl⟩, fun _ _ h => ⟨h, rfl⟩, fun _ k h => ⟨⟨k, h⟩, rfl⟩, fun _ _ _ h => ⟨h, rfl⟩, rfl⟩
theorem Step.trans (s : Step e c c1) (t : Step e c1 c2) : Step e c c2 where
  G := fun a o h => t.G a o (s.G a o h)
  nc := Nat.le_trans s.nc t.nc
  ia := fun n hn => (t.ia n (Nat.lt_of_lt_of_le hn s.nc)).trans (s.ia n hn)
  trk := fun a h => t.trk a (s.trk a h)
  fr := fun a o h hp => by
    obtain ⟨h1, g1⟩ := s.fr a o h hp
    obtain ⟨h2, g2⟩ := t.fr a o h1 fun p lp z => by
      rcases s.live p lp with ⟨q, lq, e⟩ | n
      · exact hp q lq (e ▸ z)
      · rw [z, h] at n; cases n
    exact ⟨h2, fun z => (g2 z).trans (g1 z)⟩
  live := fun p lp => by
    rcases t.live p lp with ⟨q, lq, e⟩ | n
    · rcases s.live q lq with ⟨q', lq', e'⟩ | n'
      · exact .inl ⟨q', lq', e.trans e'⟩
      · exact .inr (by rw [e]; exact n')
    · refine .inr ?_
      cases z : c.H (c2.S.adr p) with
      | none => rfl
      | some o => exact absurd n (s.trk _ (by rw [z]; exact fun z => nomatch z))
  fkeep := fun n f h => by
    obtain ⟨h1, e1⟩ := s.fkeep n f h
    obtain ⟨h2, e2⟩ := t.fkeep n f h1
    exact ⟨h2, e2.trans e1⟩
  slots := fun he i h => by
    obtain ⟨h1, e1⟩ := t.slots he i h
    obtain ⟨h2, e2⟩ := s.slots he i h1
    exact ⟨h2, e1.trans e2⟩
  ref := fun i k h => by
    obtain ⟨⟨k1, h1⟩, e1⟩ := s.ref i k h
    obtain ⟨h2, e2⟩ := t.ref i k1 h1
    exact ⟨h2, e2.trans e1⟩
  lck := fun i b k h => by
    obtain ⟨h1, e1⟩ := s.lck i b k h
    obtain ⟨h2, e2⟩ := t.lck i b k h1
    exact ⟨h2, e2.trans e1⟩
  rlen := t.rlen.trans s.rlen
theorem Step.weak (s : Step true c c1) : Step e c c1 := ⟨s.G, s.nc, s.ia, s.trk, s.fr, s.live, s.fkeep, fun _ => s.slots rfl, s.ref, s.lck, s.rlen⟩
theorem Ok.tracked (ok : Ok X σ c) {p : PlX} (l : Live c.g p) : c.H (c.S.adr p) ≠ none ∧ c.S.G (c.S.adr p) = none := by
  cases p with
  | slot i => obtain ⟨k, h⟩ := l; obtain ⟨_, g, r⟩ := ok.own i k h; exact ⟨r.some, g⟩
  | fld n f => obtain ⟨k, h⟩ := l; obtain ⟨g, r⟩ := ok.fld n f k h; exact ⟨r.some, g⟩
  | ins n =>
    obtain ⟨g, Ca, dx, fs, _, h, _⟩ := ok.ins n c.g.cs[n] (List.getElem?_eq_getElem (show n < c.g.cs.length from l))
    exact ⟨by rw [h]; exact (fun z => nomatch z), g⟩
/-- a result stays one over a further step of the same expression -/
theorem RR.mono (s : Step true c1 c2) : ∀ {r : Res} {v : V}, RR X c0 c1 r v → RR X c0 c2 r v
  | .val d, v, h => R.mono s.ge d h
  | .fresh k, v, ⟨a, e, g, r, n, o⟩ => by
    have hs := r.some
    have fr : ∀ u, c1.H a = some u → c2.H a = some u ∧ c2.S.G a = c1.S.G a := fun u hu => ⟨(s.fr a u hu n).1, (s.fr a u hu n).2 (r.notup hu)⟩
    obtain ⟨u, hu⟩ : ∃ u, c1.H a = some u := Option.ne_none_iff_exists'.mp hs
    refine ⟨a, e, by rw [(fr u hu).2]; exact g, r.mono s.ge fun o ho => (fr o ho).1, fun p lp z => ?_, o⟩
    rcases s.live p lp with ⟨q, lq, e⟩ | m
    · exact n q lq (e ▸ z)
    · rw [z, hu] at m; cases m
  | .brw p, v, ⟨h, hf⟩ => by
    cases p with
    | slot i =>
      refine ⟨fun l => ?_, trivial⟩
      obtain ⟨l1, e1⟩ := s.slots rfl i l
      have q := h l1
      rw [q]
      show V.ref (c1.S.adr (.slot i)) = V.ref (c2.S.adr (.slot i))
      rw [e1]
    | fld n f =>
      obtain ⟨l2, e2⟩ := s.fkeep n f hf
      refine ⟨fun _ => ?_, l2⟩
      have q := h hf
      rw [q]
      show V.ref (c1.S.adr (.fld n f)) = V.ref (c2.S.adr (.fld n f))
      rw [e2]
/-- a result from a later origin -/
theorem RR.back (s : Step e c0 c1) : ∀ {r : Res} {v : V}, RR X c1 c2 r v → RR X c0 c2 r v
  | .val d, v, h => h
  | .fresh k, v, ⟨a, e, g, r, n, o⟩ => by
    refine ⟨a, e, g, r, n, ?_⟩
    rcases o with o | ⟨q, lq, e⟩
    · refine .inl ?_
      cases z : c0.H a with
      | none => rfl
      | some o' => exact absurd o (s.trk _ (by rw [z]; exact fun z => nomatch z))
    · rcases s.live q lq with ⟨q', lq', e'⟩ | m
      · exact .inr ⟨q', lq', e'.symm.trans e⟩
      · exact .inl (by rw [← e]; exact m)
  | .brw p, v, h => h
end Iv
set_option linter.all false
set_option autoImplicit false
set_option maxRecDepth 100000
/-! Iv4: what a reading of the heap layer is to say of Iv's semantics; the steps of the ghost state. -/
namespace Iv
open PySem (Str Expr Stmt CmpOp Operator BoolOp PyData Addr Value Scope)
open L2 (V HO Hp upd upd_same upd_ne ne_of ne_of_none SqL SqT Rd Same WX TE TT TA TS PE PT PA PS PSs PC)

abbrev tx (X : L2.Cx) : Tx := ⟨X.K, X.mg⟩
/-- an exception of the program's own class -/
def RX (X : Tx) (c : Cfg) (x : Xn) (cls : Value) (dx : Option Addr) : Prop :=
  ∃ Ca, cls = .ref Ca ∧ X.mg x.c = some (.ref Ca) ∧
    match x.fs with
    | [] => True
    | fs => ∃ d vs, dx = some d ∧ c.H d = some (.xd vs) ∧ vs.map (·.1) = fs.map (·.1) ∧ RL X c.S (fs.map (·.2)) (vs.map (·.2))
section
variable {α β γ δ : Type} (X : Tx) (W : WX) (σ : L2.St)
def PostX (c0 : Cfg) (r : Out α × Sg) : Prop :=
  ∀ x, r.1 = .exc x → ∀ cls dx c, c.g = r.2 → Step true c0 c → Ok X σ c → RX X c x cls dx → W cls dx σ c.H
def Post (Rel : Cfg → Cfg → α → β → Prop) (c0 : Cfg) (r : Out α × Sg) (Q : β → Hp → Prop) : Prop :=
  (∀ a, r.1 = .ok a → ∀ v c, c.g = r.2 → Step true c0 c → Ok X σ c → Rel c0 c a v → Q v c.H) ∧ PostX X W σ c0 r
def tM (Rel : Cfg → Cfg → α → β → Prop) (f : M α) : L2.St → Hp → (β → Hp → Prop) → Prop := fun σ H Q =>
  ∃ c r, c.H = H ∧ Ok X σ c ∧ f c.g = some r ∧ Post X W σ Rel c r Q
end
/-- a relation that goes back over a step -/
structure Backs {α β : Type} (Rel : Cfg → Cfg → α → β → Prop) : Prop where
  b : ∀ {c0 c1 c2 a v}, Step true c0 c1 → Rel c1 c2 a v → Rel c0 c2 a v
def RD (X : Tx) (_ c : Cfg) (d : D) (v : V) : Prop := R X c.S d v
def RDs (X : Tx) (_ c : Cfg) (d : List D) (v : List V) : Prop := RL X c.S d v
def RB {α : Type} (_ _ : Cfg) (a b : α) : Prop := a = b
theorem rr_backs {X : Tx} : Backs (RR X) := ⟨fun s h => h.back s⟩
theorem rd_backs {X : Tx} : Backs (RD X) := ⟨fun _ h => h⟩
theorem rds_backs {X : Tx} : Backs (RDs X) := ⟨fun _ h => h⟩
theorem rb_backs {α : Type} : Backs (RB (α := α)) := ⟨fun _ h => h⟩
abbrev tE (X : Tx) (W : WX) (f : M Res) : TE := tM X W (RR X) f
abbrev tB (X : Tx) (W : WX) (f : M Bool) : TT := tM X W RB f
abbrev tD (X : Tx) (W : WX) (f : M D) : TE := tM X W (RD X) f
abbrev tDs (X : Tx) (W : WX) (f : M (List D)) : TA := tM X W (RDs X) f

section
variable {α β γ δ : Type} {X : Tx} {W : WX} {σ : L2.St} {Rel : Cfg → Cfg → α → β → Prop} {Rel2 : Cfg → Cfg → γ → δ → Prop} {c c0 c1 : Cfg} {r : Out γ × Sg} {Q : δ → Hp → Prop}
theorem PostX.shift {r : Out α × Sg} (s : Step true c0 c1) (h : PostX X W σ c0 r) : PostX X W σ c1 r := fun x hx cls dx c hg st ok rx => h x hx cls dx c hg (s.trans st) ok rx
theorem Post.shift (b : Backs Rel2) (s : Step true c0 c1) (h : Post X W σ Rel2 c0 r Q) : Post X W σ Rel2 c1 r Q :=
  ⟨fun a ha v c hg st ok rel => h.1 a ha v c hg (s.trans st) ok (b.b s rel), h.2.shift s⟩
theorem bnd_ok {m : M α} {k : α → M γ} {g g1 : Sg} {a : α} (h : m g = some (.ok a, g1)) : bnd m k g = k a g1 := by unfold bnd; rw [h]
theorem bnd_exc {m : M α} {k : α → M γ} {g g1 : Sg} {x : Xn} (h : m g = some (.exc x, g1)) : bnd m k g = some (.exc x, g1) := by unfold bnd; rw [h]
theorem bnd_none {m : M α} {k : α → M γ} {g : Sg} (h : m g = none) : bnd m k g = none := by unfold bnd; rw [h]
/-- THE RULE of two steps in a row -/
theorem tM_bnd {m : M α} {k : α → M γ} {Q1 : β → Hp → Prop} (b : Backs Rel2) (ok : Ok X σ c) (h : bnd m k c.g = some r) (p : Post X W σ Rel2 c r Q)
    (hk : ∀ a v c1, Step true c c1 → Ok X σ c1 → Rel c c1 a v → k a c1.g = some r → Post X W σ Rel2 c1 r Q → Q1 v c1.H) : tM X W Rel m σ c.H Q1 := by
  cases hm : m c.g with
  | none => rw [bnd_none hm] at h; cases h
  | some z =>
    obtain ⟨o, g1⟩ := z
    refine ⟨c, (o, g1), rfl, ok, hm, ?_, ?_⟩
    · rintro a ha v c1 hg st ok1 rel
      subst ha
      have hg' : c1.g = g1 := hg
      subst hg'
      rw [bnd_ok hm] at h
      exact hk a v c1 st ok1 rel h (p.shift b st)
    · rintro x hx cls dx c1 hg st ok1 rx
      subst hx
      rw [bnd_exc hm] at h
      cases h
      exact p.2 x rfl cls dx c1 hg st ok1 rx
theorem liftO_some {α : Type} {f : Sg → Option α} {g : Sg} {r : Out α × Sg} (h : liftO f g = some r) : ∃ a, f g = some a ∧ r = (.ok a, g) := by
  unfold liftO at h
  cases hf : f g with
  | none => rw [hf] at h; cases h
  | some a => rw [hf] at h; cases h; exact ⟨a, rfl, rfl⟩
/-- an end without a change -/
theorem Post.fin {a : γ} {v : δ} (p : Post X W σ Rel2 c (.ok a, c.g) Q) (ok : Ok X σ c) (rel : Rel2 c c a v) : Q v c.H := p.1 a rfl v c rfl Step.refl ok rel
end

/-! ### the ghost state's own steps -/
section
variable {X : Tx} {W : WX} {σ : L2.St} {c c0 c1 : Cfg}
/-- a new object that nobody owns yet -/
def Cfg.put (c : Cfg) (p : Addr) (o : HO) : Cfg := { c with H := upd c.H p o }
theorem upd_keep {H : Hp} {p a : Addr} {o u : HO} (hp : H p = none) (h : H a = some u) : upd H p o a = some u := by
  rw [upd_ne (ne_of_none h hp)]; exact h
theorem Step.put {e : Bool} {p : Addr} {o : HO} (hp : c.H p = none) : Step e c (c.put p o) where
  G := fun _ _ h => h
  nc := Nat.le_refl _
  ia := fun _ _ => rfl
  trk := fun a h => by
    obtain ⟨u, hu⟩ := Option.ne_none_iff_exists'.mp h
    show upd c.H p o a ≠ none
    rw [upd_keep hp hu]; exact (fun z => nomatch z)
  fr := fun a u h _ => ⟨upd_keep hp h, fun _ => rfl⟩
  live := fun q l => .inl ⟨q, l, rfl⟩
  fkeep := fun _ _ h => ⟨h, rfl⟩
  slots := fun _ _ h => ⟨h, rfl⟩
  ref := fun _ k h => ⟨⟨k, h⟩, rfl⟩
  lck := fun _ _ _ h => ⟨h, rfl⟩
  rlen := rfl
/-- the ghost may be changed where nothing is live -/
theorem Ok.heap {S' : Gh} {H' : Hp} (ok : Ok X σ c) (m : Ge c.S S') (hadr : S'.adr = c.S.adr) (hnc : S'.nc = c.S.nc) (sub : ∀ a o, S'.G a = some o → H' a = some o)
    (hl : ∀ p, Live c.g p → H' (c.S.adr p) = c.H (c.S.adr p) ∧ S'.G (c.S.adr p) = c.S.G (c.S.adr p)) : Ok X σ { c with S := S', H := H' } where
  sub := sub
  len := ok.len
  nc := hnc.trans ok.nc
  val := fun i d h => let ⟨v, e, r⟩ := ok.val i d h; ⟨v, e, R.mono m d r⟩
  own := fun i k h => by
    obtain ⟨e, g, r⟩ := ok.own i k h
    obtain ⟨h1, h2⟩ := hl (.slot i) ⟨k, h⟩
    show σ[i]? = some (some (.ref (S'.adr (.slot i)))) ∧ S'.G (S'.adr (.slot i)) = none ∧ CR X S' H' (S'.adr (.slot i)) k
    rw [hadr]
    exact ⟨e, h2.trans g, CR.mono' m h1 r⟩
  fld := fun n f k h => by
    obtain ⟨g, r⟩ := ok.fld n f k h
    obtain ⟨h1, h2⟩ := hl (.fld n f) ⟨k, h⟩
    show S'.G (S'.adr (.fld n f)) = none ∧ CR X S' H' (S'.adr (.fld n f)) k
    rw [hadr]
    exact ⟨h2.trans g, CR.mono' m h1 r⟩
  ins := fun n I h => by
    obtain ⟨g, Ca, dx, fs, hm, hh, fr⟩ := ok.ins n I h
    obtain ⟨h1, h2⟩ := hl (.ins n) (List.getElem?_eq_some_iff.mp h).1
    show S'.G (S'.adr (.ins n)) = none ∧ ∃ Ca dx fs, X.mg I.c = some (.ref Ca) ∧ H' (S'.adr (.ins n)) = some (.ins Ca dx fs) ∧ FR X S' n I.fs fs
    rw [hadr]
    exact ⟨h2.trans g, Ca, dx, fs, hm, h1.trans hh, FR.mono m (fun f => by rw [hadr]) fr⟩
  inj := fun p q lp lq e => ok.inj p q lp lq (by have e' : S'.adr p = S'.adr q := e; rwa [hadr] at e')
theorem Ok.free (ok : Ok X σ c) {p : Addr} (hp : c.H p = none) : c.S.G p = none := by
  cases h : c.S.G p with
  | none => rfl
  | some o => rw [ok.sub p o h] at hp; cases hp
theorem Ok.nlive (ok : Ok X σ c) {p : Addr} (hp : c.H p = none) (q : PlX) (l : Live c.g q) : c.S.adr q ≠ p := fun e => (ok.tracked l).1 (by rw [e]; exact hp)
theorem Ok.put (ok : Ok X σ c) {p : Addr} {o : HO} (hp : c.H p = none) : Ok X σ (c.put p o) :=
  ok.heap (S' := c.S) (H' := upd c.H p o) ⟨fun _ _ h => h, Nat.le_refl _, fun _ _ => rfl⟩ rfl rfl (fun a u h => upd_keep hp (ok.sub a u h)) fun q l => ⟨by
    rw [upd_ne]
    exact ok.nlive hp q l, rfl⟩
/-- a new object that is for ever as it is -/
def Cfg.putG (c : Cfg) (p : Addr) (o : HO) : Cfg := { c with S := { c.S with G := upd c.S.G p o }, H := upd c.H p o }
/-- a fresh object is from now on as it is -/
def Cfg.froze (c : Cfg) (p : Addr) (o : HO) : Cfg := { c with S := { c.S with G := upd c.S.G p o } }
theorem upd_sub {G : Hp} {p : Addr} {o : HO} (h : G p = none) : ∀ a u, G a = some u → upd G p o a = some u := fun a u e => upd_keep h e
theorem Ok.froze (ok : Ok X σ c) {p : Addr} {o : HO} (hg : c.S.G p = none) (hh : c.H p = some o) (hn : ∀ q, Live c.g q → c.S.adr q ≠ p) : Ok X σ (c.froze p o) :=
  ok.heap (S' := { c.S with G := upd c.S.G p o }) (H' := c.H) ⟨upd_sub hg, Nat.le_refl _, fun _ _ => rfl⟩ rfl rfl (fun a u h => by
    by_cases e : a = p
    · rw [e] at h ⊢
      have h' : upd c.S.G p o p = some u := h
      rw [upd_same] at h'
      rw [hh]; exact h'
    · have h' : upd c.S.G p o a = some u := h
      rw [upd_ne e] at h'
      exact ok.sub a u h') fun q l => ⟨rfl, upd_ne (hn q l)⟩
theorem Step.froze {e : Bool} (s : Step e c0 c) {p : Addr} {o : HO} (hg : c.S.G p = none) (ho : c0.H p = none ∨ ∃ q, Live c0.g q ∧ c0.S.adr q = p) : Step e c0 (c.froze p o) where
  G := fun a u h => upd_sub hg a u (s.G a u h)
  nc := s.nc
  ia := s.ia
  trk := s.trk
  fr := fun a u h hp => by
    have ne : a ≠ p := fun z => by
      subst z
      rcases ho with z | ⟨q, lq, eq⟩
      · rw [z] at h; cases h
      · exact hp q lq eq
    obtain ⟨h1, h2⟩ := s.fr a u h hp
    exact ⟨h1, fun z => (upd_ne ne).trans (h2 z)⟩
  live := s.live
  fkeep := s.fkeep
  slots := s.slots
  ref := s.ref
  lck := s.lck
  rlen := s.rlen
theorem ge_froze {p : Addr} {o : HO} (g : c.S.G p = none) : Ge c.S (c.froze p o).S := ⟨upd_sub g, Nat.le_refl _, fun _ _ => rfl⟩
theorem ge_putG {p : Addr} {o : HO} (g : c.S.G p = none) : Ge c.S (c.putG p o).S := ⟨upd_sub g, Nat.le_refl _, fun _ _ => rfl⟩
/-- a result taken as a value -/
theorem take_ok (s : Step true c0 c) (ok : Ok X σ c) : ∀ {r : Res} {v : V} {d : D}, RR X c0 c r v → r.take = some d →
    ∃ c', c'.g = c.g ∧ c'.H = c.H ∧ Step true c0 c' ∧ Ok X σ c' ∧ R X c'.S d v
  | .val d, v, _, h, e => by cases e; exact ⟨c, rfl, rfl, s, ok, h⟩
  | .fresh (.lst ds), v, _, ⟨a, ev, g, ⟨xs, hx, rl⟩, n, o⟩, e => by
    cases e
    refine ⟨c.froze a (.lst xs), rfl, rfl, s.froze g o, ok.froze g hx n, ?_⟩
    simp only [R]
    exact ⟨a, xs, ev, upd_same, RL.mono (ge_froze g) ds rl⟩
/-- .. as readings -/
theorem tD_tE {m : M Res} {H : Hp} {Q : V → Hp → Prop} (h : tD X W (takeM m) σ H Q) : tE X W m σ H Q := by
  obtain ⟨c, r, rfl, ok, h, p⟩ := h
  refine tM_bnd rd_backs ok h p fun a v c1 s1 ok1 rr h1 p1 => ?_
  obtain ⟨d, hd, rfl⟩ := liftO_some h1
  obtain ⟨c2, hg, hH, s2, ok2, rd⟩ := take_ok s1 ok1 rr hd
  rw [← hH]
  exact p.1 d rfl v c2 hg s2 ok2 rd
/-- a list just made, a tuple just made -/
theorem fin_lst {Q : V → Hp → Prop} {ds : List D} {xs : List V} (p : Post X W σ (RR X) c (.ok (.fresh (.lst ds)), c.g) Q) (ok : Ok X σ c) (h : RL X c.S ds xs) : ∀ a, c.H a = none → Q (.ref a) (upd c.H a (.lst xs)) := fun a ha =>
  p.1 _ rfl (.ref a) (c.put a (.lst xs)) rfl (Step.put ha) (ok.put ha) ⟨a, rfl, ok.free ha, ⟨xs, upd_same, h⟩, ok.nlive ha, .inl ha⟩
theorem Ok.putG (ok : Ok X σ c) {p : Addr} {o : HO} (hp : c.H p = none) : Ok X σ (c.putG p o) := (ok.put (o := o) hp).froze (ok.free hp) upd_same (ok.nlive hp)
theorem Step.putG (ok : Ok X σ c) {p : Addr} {o : HO} (hp : c.H p = none) : Step true c (c.putG p o) := (Step.put (e := true) (o := o) hp).froze (ok.free hp) (.inl hp)
theorem fin_tup {Q : V → Hp → Prop} {ds : List D} {xs : List V} (p : Post X W σ (RR X) c (.ok (.val (.tup ds)), c.g) Q) (ok : Ok X σ c) (h : RL X c.S ds xs) : ∀ a, c.H a = none → Q (.ref a) (upd c.H a (.tup xs)) := fun a ha => by
  refine p.1 _ rfl (.ref a) (c.putG a (.tup xs)) rfl (Step.putG ok ha) (ok.putG ha) ?_
  show R X (c.putG a (.tup xs)).S (.tup ds) (.ref a)
  simp only [R]
  exact ⟨a, xs, rfl, upd_same, RL.mono (ge_putG (ok.free ha)) ds h⟩

/-! ### what may be read now -/
/-- the topmost container as it stands in the heap, its items for ever -/
def Top (X : Tx) (c : Cfg) : D → V → Prop
  | .lst ds, v => ∃ a xs, v = .ref a ∧ c.H a = some (.lst xs) ∧ RL X c.S ds xs
  | d, v => R X c.S d v
theorem R.top (ok : Ok X σ c) : ∀ {d : D} {v : V}, R X c.S d v → Top X c d v
  | .lst ds, v, h => by
    simp only [R] at h
    obtain ⟨a, xs, e, s, r⟩ := h
    exact ⟨a, xs, e, ok.sub _ _ s, r⟩
  | .tup _, v, h => h
  | .non, v, h => h
  | .bl _, v, h => h
  | .int _, v, h => h
  | .str _, v, h => h
  | .obj _ _ _, v, h => h
  | .cell _, v, h => h
  | .scr _, v, h => h
theorem cont_at (ok : Ok X σ c) {p : Pl} {k : C} (h : cont c.g p = some k) : c.S.G (c.S.adr p.x) = none ∧ CR X c.S c.H (c.S.adr p.x) k := by
  cases p with
  | slot i => exact (ok.own i k h).2
  | fld n f => exact ok.fld n f k h
theorem live_at {p : Pl} {k : C} (h : cont c.g p = some k) : Live c.g p.x := by
  cases p with
  | slot i => exact ⟨k, h⟩
  | fld n f => exact ⟨k, h⟩
theorem view_ok (ok : Ok X σ c) : ∀ {r : Res} {v : V} {d : D}, RR X c0 c r v → dview c.g r = some d → Top X c d v
  | .val d, v, _, h, e => by cases e; exact R.top ok h
  | .fresh (.lst ds), v, _, ⟨a, ev, g, ⟨xs, hx, rl⟩, n, o⟩, e => by cases e; exact ⟨a, xs, ev, hx, rl⟩
  | .brw p, v, d, ⟨h, _⟩, e => by
    obtain ⟨k, hk, hv⟩ := Option.bind_eq_some_iff.mp (show (cont c.g p).bind C.view = some d from e)
    have hv' := h (live_at hk)
    obtain ⟨_, cr⟩ := cont_at ok hk
    cases k with
    | lst ds => cases hv; obtain ⟨xs, hx, rl⟩ := cr; exact ⟨_, xs, hv', hx, rl⟩
    | dK _ => cases hv
    | dT _ => cases hv
theorem RL.length {S : Gh} : ∀ {ds : List D} {xs : List V}, RL X S ds xs → xs.length = ds.length
  | [], xs, h => by simp only [RL] at h; rw [h] <;> rfl
  | d :: ds, xs, h => by
    simp only [RL] at h
    obtain ⟨v, r, e, _, h2⟩ := h
    rw [e, List.length_cons, List.length_cons, RL.length h2]
theorem RL.get {S : Gh} : ∀ {ds : List D} {xs : List V} {i : Nat} {d : D}, RL X S ds xs → ds[i]? = some d → ∃ v, xs[i]? = some v ∧ R X S d v
  | [], xs, i, d, h, e => by simp at e
  | d' :: ds, xs, 0, d, h, e => by
    simp only [RL] at h
    obtain ⟨v, r, e1, h1, h2⟩ := h
    simp only [List.getElem?_cons_zero, Option.some.injEq] at e
    subst e e1
    exact ⟨v, rfl, h1⟩
  | d' :: ds, xs, i + 1, d, h, e => by
    simp only [RL] at h
    obtain ⟨v, r, e1, h1, h2⟩ := h
    subst e1
    have e' : ds[i]? = some d := by simpa using e
    obtain ⟨w, hw, hr⟩ := RL.get h2 e'
    exact ⟨w, by simpa using hw, hr⟩
theorem RL.append {S : Gh} : ∀ {ds es : List D} {xs ys : List V}, RL X S ds xs → RL X S es ys → RL X S (ds ++ es) (xs ++ ys)
  | [], es, xs, ys, h, h' => by simp only [RL] at h; subst h; exact h'
  | d :: ds, es, xs, ys, h, h' => by
    simp only [RL] at h
    obtain ⟨v, r, e, h1, h2⟩ := h
    subst e
    show RL X S (d :: (ds ++ es)) (v :: (r ++ ys))
    simp only [RL]
    exact ⟨v, _, rfl, h1, RL.append h2 h'⟩
theorem RL.take {S : Gh} : ∀ {ds : List D} {xs : List V} (n : Nat), RL X S ds xs → RL X S (ds.take n) (xs.take n)
  | ds, xs, 0, h => by simp only [List.take_zero, RL]
  | [], xs, n + 1, h => by simp only [RL] at h; subst h; simp only [List.take_nil, RL]
  | d :: ds, xs, n + 1, h => by
    simp only [RL] at h
    obtain ⟨v, r, e, h1, h2⟩ := h
    subst e
    simp only [List.take_succ_cons, RL]
    exact ⟨v, _, rfl, h1, RL.take n h2⟩
theorem RL.drop {S : Gh} : ∀ {ds : List D} {xs : List V} (n : Nat), RL X S ds xs → RL X S (ds.drop n) (xs.drop n)
  | ds, xs, 0, h => h
  | [], xs, n + 1, h => by simp only [RL] at h; subst h; simp only [List.drop_nil, RL]
  | d :: ds, xs, n + 1, h => by
    simp only [RL] at h
    obtain ⟨v, r, e, h1, h2⟩ := h
    subst e
    exact RL.drop n h2
theorem RL.nil {S : Gh} {xs : List V} (h : RL X S [] xs) : xs = [] := by simpa only [RL] using h
/-- a result that is read off a container -/
theorem Post.read {Q : V → Hp → Prop} {d : D} {v : V} (p : Post X W σ (RR X) c (.ok (.val d), c.g) Q) (ok : Ok X σ c) (h : R X c.S d v) : Q v c.H := p.fin ok h
end
end Iv
set_option linter.all false
set_option autoImplicit false
set_option maxRecDepth 100000
set_option maxHeartbeats 1000000
/-! Iv5: operators and comparisons. -/
namespace Iv
open PySem (Str Expr Stmt CmpOp Operator BoolOp PyData Addr Value Scope)
open L2 (V HO Hp upd upd_same upd_ne ne_of ne_of_none SqL SqT Rd Same WX TE TT TA TS PE PT PA PS PSs PC R2 OpR Cx)

theorem line_eq : line = PySem.sizeLine := by rw [PySem.sizeLine_eq]
theorem le_line {n : Nat} (h : n ≤ line) : n ≤ PySem.sizeLine := by rw [← line_eq]; exact h
theorem lt_line {n : Nat} (h : n < line) : n < PySem.sizeLine := by rw [← line_eq]; exact h
section
variable {X : Cx} {T : Tx} {W : WX} {σ : L2.St} {c c0 : Cfg} {d e : D} {v1 v2 : V} {res : Res} {Q : V → Hp → Prop}
theorem top_int {i : Int} {v : V} (h : Top T c (.int i) v) : v = .int i := by simpa [Top, R] using h
theorem top_str {x : Str} {v : V} (h : Top T c (.str x) v) : v = .str x := by simpa [Top, R] using h
theorem top_bl {x : Bool} {v : V} (h : Top T c (.bl x) v) : v = .bl x := by simpa [Top, R] using h
theorem top_non {v : V} (h : Top T c .non v) : v = .non := by simpa [Top, R] using h
theorem r_int {S : Gh} (i : Int) : R T S (.int i) (.int i) := by simp [R]
theorem r_str {S : Gh} (x : Str) : R T S (.str x) (.str x) := by simp [R]
theorem r_bl {S : Gh} (b : Bool) : R T S (.bl b) (.bl b) := by simp [R]
theorem r_non {S : Gh} : R T S .non .non := by simp [R]

theorem top_tup (ok : Ok T σ c) {ds : List D} {v : V} (h : Top T c (.tup ds) v) : ∃ a xs, v = .ref a ∧ c.S.G a = some (.tup xs) ∧ c.H a = some (.tup xs) ∧ RL T c.S ds xs := by
  simp only [Top, R] at h
  obtain ⟨a, xs, e, g, r⟩ := h
  exact ⟨a, xs, e, g, ok.sub _ _ g, r⟩
theorem top_lst {ds : List D} {v : V} (h : Top T c (.lst ds) v) : ∃ a xs, v = .ref a ∧ c.H a = some (.lst xs) ∧ RL T c.S ds xs := h

theorem RL.rep {S : Gh} {ds : List D} {xs : List V} (h : RL T S ds xs) : ∀ n : Nat, RL T S (List.replicate n ds).flatten (List.replicate n xs).flatten
  | 0 => by simp only [List.replicate_zero, List.flatten_nil, RL]
  | n + 1 => by
    simp only [List.replicate_succ, List.flatten_cons]
    exact h.append (RL.rep h n)
/-! ### + -/
def rAddAll (K : PySem.W.Frag) : R2 := fun x y H Q => (∃ i j, x = V.int i ∧ y = V.int j ∧ Q (.int (i + j)) H) ∨ ((∃ i j, x = V.str i ∧ y = V.str j ∧ i.length + j.length ≤ PySem.sizeLine ∧ Q (.str (i ++ j)) H) ∨ (L2.rCat x y H Q ∨ L2.rCatA K x y H Q))
theorem op_addAll : OpR X (PySem.binaryOp .Add) (rAddAll X.K) := L2.op_add.or (L2.op_add_str.or (L2.op_cat.or L2.op_catA))
theorem RL.nil_iff {S : Gh} {ds : List D} {xs : List V} (h : RL T S ds xs) : xs = [] ↔ ds = [] := by
  have e := h.length
  constructor
  · intro z; subst z; exact List.length_eq_zero_iff.mp e.symm
  · intro z; subst z; exact List.length_eq_zero_iff.mp e
theorem add_ok (ok : Ok T σ c) (h1 : Top T c d v1) (h2 : Top T c e v2) (h : binD .Add d e = some res) (p : Post T W σ (RR T) c (.ok res, c.g) Q) : rAddAll T.K v1 v2 c.H Q := by
  cases d with
  | int i =>
    cases e with
    | int j => cases h; exact .inl ⟨i, j, top_int h1, top_int h2, p.read ok (r_int _)⟩
    | _ => cases h
  | str x =>
    cases e with
    | str y =>
      simp only [binD] at h
      split at h
      · rename_i hl; cases h; exact .inr (.inl ⟨x, y, top_str h1, top_str h2, le_line hl, p.read ok (r_str _)⟩)
      · cases h
    | _ => cases h
  | lst a =>
    cases e with
    | lst b =>
      simp only [binD] at h
      split at h
      · rename_i hl
        cases h
        obtain ⟨l, xs, rfl, hx, r1⟩ := h1
        obtain ⟨m, ys, rfl, hy, r2⟩ := h2
        exact .inr (.inr (.inl ⟨l, m, xs, ys, rfl, rfl, hx, hy, by rw [r1.length, r2.length]; exact le_line hl, fin_lst p ok (r1.append r2)⟩))
      · cases h
    | _ => cases h
  | tup a =>
    cases e with
    | tup b =>
      simp only [binD] at h
      split at h
      · rename_i hl
        cases h
        obtain ⟨l, xs, rfl, gx, hx, r1⟩ := top_tup ok h1
        obtain ⟨m, ys, rfl, gy, hy, r2⟩ := top_tup ok h2
        refine .inr (.inr (.inr ⟨l, m, xs, ys, rfl, rfl, SqT.of hx, SqT.of hy, by rw [r1.length, r2.length]; exact le_line hl, fun z => ?_, fun _ z => ?_, fun _ _ => fin_tup p ok (r1.append r2)⟩))
        · have z' := r1.nil_iff.mp z
          subst z'
          exact p.read ok (by simp only [R]; exact ⟨m, ys, rfl, gy, r2⟩)
        · have z' := r2.nil_iff.mp z
          subst z'
          exact p.read ok (by rw [List.append_nil]; simp only [R]; exact ⟨l, xs, rfl, gx, r1⟩)
      · cases h
    | _ => cases h
  | _ => cases h
/-! ### other operators of ints -/
def CPowW (i j : Int) : Prop := 0 ≤ j ∧ ((bits i : Int)) * j ≤ 134217728
theorem bits_eq (i : Int) : PySem.Builtin.Int.intBits i = bits i := by
  unfold PySem.Builtin.Int.intBits bits
  by_cases h : i = 0
  · simp [h]
  · simp [h]
theorem op_powW : OpR X (PySem.binaryOp .Pow) (L2.rI CPowW fun i j => .int (i ^ j.toNat)) := L2.opI fun i j _ _ _ _ _ hc q => PyProof.Rows.pow_int hc.1 (by rw [bits_eq]; exact hc.2) q
def rMulAll : R2 := fun x y H Q => L2.rI L2.CMulW (fun i j => .int (i * j)) x y H Q ∨ L2.rRep x y H Q
theorem op_mulAll : OpR X (PySem.binaryOp .Mult) rMulAll := L2.op_mulW.or L2.op_rep
def rNone : R2 := fun _ _ _ _ => False
theorem op_none {f : Value → Value → PySem.Sem Value} : OpR X f rNone := fun _ _ _ _ _ _ _ _ _ _ _ _ h => h.elim
def rBin (K : PySem.W.Frag) : Operator → R2
  | .Add => rAddAll K
  | .Sub => L2.rI0 fun i j => .int (i - j)
  | .Mult => rMulAll
  | .FloorDiv => L2.rI L2.CDivW fun i j => .int (i / j)
  | .Mod => L2.rI (fun _ j => 0 < j) fun i j => .int (i % j)
  | .Pow => L2.rI CPowW fun i j => .int (i ^ j.toNat)
  | _ => rNone
theorem op_bin (op : Operator) : OpR X (PySem.binaryOp op) (rBin X.K op) := by
  cases op with
  | Add => exact op_addAll
  | Sub => exact L2.op_sub
  | Mult => exact op_mulAll
  | FloorDiv => exact L2.op_fdivW
  | Mod => exact L2.op_mod
  | Pow => exact op_powW
  | _ => exact op_none
theorem bin_ok (ok : Ok T σ c) {op : Operator} (h1 : Top T c d v1) (h2 : Top T c e v2) (h : binD op d e = some res) (p : Post T W σ (RR T) c (.ok res, c.g) Q) : rBin T.K op v1 v2 c.H Q := by
  cases op with
  | Add => exact add_ok ok h1 h2 h p
  | Sub =>
    cases d with
    | int i => cases e with
      | int j => cases h; exact ⟨i, j, top_int h1, top_int h2, p.read ok (r_int _)⟩
      | _ => cases h
    | _ => cases h
  | Mult =>
    cases d with
    | int i => cases e with
      | int j =>
        simp only [binD] at h
        split at h
        · rename_i hl; cases h; exact .inl ⟨i, j, top_int h1, top_int h2, (show L2.CMulW i j by have q := hl; simpa [mulOk, L2.CMulW] using q), p.read ok (r_int _)⟩
        · cases h
      | _ => cases h
    | lst a => cases e with
      | int j =>
        simp only [binD] at h
        split at h
        · rename_i hl
          cases h
          obtain ⟨l, xs, rfl, hx, r1⟩ := top_lst h1
          refine .inr ⟨l, j, xs, rfl, top_int h2, hx, by omega, by omega, by rw [r1.length]; exact le_line hl.2.2, fin_lst p ok (RL.rep r1 _)⟩
        · cases h
      | _ => cases h
    | _ => cases h
  | FloorDiv =>
    cases d with
    | int i => cases e with
      | int j =>
        simp only [binD] at h
        split at h
        · rename_i hl; cases h; exact ⟨i, j, top_int h1, top_int h2, hl, p.read ok (r_int _)⟩
        · cases h
      | _ => cases h
    | _ => cases h
  | Mod =>
    cases d with
    | int i => cases e with
      | int j =>
        simp only [binD] at h
        split at h
        · rename_i hl; cases h; exact ⟨i, j, top_int h1, top_int h2, hl, p.read ok (r_int _)⟩
        · cases h
      | _ => cases h
    | _ => cases h
  | Pow =>
    cases d with
    | int i => cases e with
      | int j =>
        simp only [binD] at h
        split at h
        · rename_i hl; cases h; exact ⟨i, j, top_int h1, top_int h2, hl, p.read ok (r_int _)⟩
        · cases h
      | _ => cases h
    | _ => cases h
  | _ => cases d <;> cases e <;> cases h

/-! ### data that the model compares -/
mutual
theorem R.dp {S : Gh} {H : Hp} (hs : ∀ a o, S.G a = some o → H a = some o) : ∀ (d : D) {v : V} {q : PyData}, R T S d v → toPy d = some q → L2.Dp T.K H v q
  | .non, v, q, h, e => by simp only [R] at h; subst h; cases e; exact .non
  | .bl b, v, q, h, e => by simp only [R] at h; subst h; cases e; exact .bl b
  | .int i, v, q, h, e => by simp only [R] at h; subst h; cases e; exact .int i
  | .str x, v, q, h, e => by simp only [R] at h; subst h; cases e; exact .str x
  | .lst ds, v, q, h, e => by
    simp only [R] at h
    obtain ⟨a, xs, rfl, g, r⟩ := h
    simp only [toPy] at e
    obtain ⟨qs, hq, rfl⟩ := Option.map_eq_some_iff.mp e
    exact .lst (SqL.of (hs _ _ g)) (RL.dp hs ds r hq)
  | .tup ds, v, q, h, e => by
    simp only [R] at h
    obtain ⟨a, xs, rfl, g, r⟩ := h
    simp only [toPy] at e
    obtain ⟨qs, hq, rfl⟩ := Option.map_eq_some_iff.mp e
    exact .tup (SqT.of (hs _ _ g)) (RL.dp hs ds r hq)
  | .obj _ _ _, v, q, h, e => by simp only [toPy] at e; cases e
  | .cell _, v, q, h, e => by simp only [toPy] at e; cases e
  | .scr _, v, q, h, e => by simp only [toPy] at e; cases e
theorem RL.dp {S : Gh} {H : Hp} (hs : ∀ a o, S.G a = some o → H a = some o) : ∀ (ds : List D) {vs : List V} {qs : List PyData}, RL T S ds vs → toPys ds = some qs → L2.DpAll T.K H vs qs
  | [], vs, qs, h, e => by simp only [RL] at h; subst h; simp only [toPys] at e; cases e; exact .nil
  | d :: ds, vs, qs, h, e => by
    simp only [RL] at h
    obtain ⟨v, r, rfl, h1, h2⟩ := h
    simp only [toPys] at e
    cases hd : toPy d with
    | none => rw [hd] at e; cases e
    | some p =>
      cases hds : toPys ds with
      | none => rw [hd, hds] at e; cases e
      | some ps => rw [hd, hds] at e; cases e; exact .cons (R.dp hs d h1 hd) (RL.dp hs ds h2 hds)
end
theorem Top.dp (ok : Ok T σ c) {d : D} {v : V} {q : PyData} (h : Top T c d v) (e : toPy d = some q) : L2.Dp T.K c.H v q := by
  cases d with
  | lst ds =>
    obtain ⟨a, xs, rfl, g, r⟩ := top_lst h
    simp only [toPy] at e
    obtain ⟨qs, hq, rfl⟩ := Option.map_eq_some_iff.mp e
    exact .lst (SqL.of g) (RL.dp ok.sub ds r hq)
  | tup ds => exact R.dp ok.sub (.tup ds) h e
  | non => exact R.dp ok.sub .non h e
  | bl b => exact R.dp ok.sub (.bl b) h e
  | int b => exact R.dp ok.sub (.int b) h e
  | str b => exact R.dp ok.sub (.str b) h e
  | obj _ _ _ => simp only [toPy] at e; cases e
  | cell _ => simp only [toPy] at e; cases e
  | scr _ => simp only [toPy] at e; cases e
theorem shp_eq (p : PyData) : shp p = PySem.SeqAt.shaped p := rfl
end
end Iv
set_option linter.all false
set_option autoImplicit false
set_option maxRecDepth 100000
set_option maxHeartbeats 1000000
/-! Iv6: comparisons, dicts as relations. -/
namespace Iv
open PySem (Str Expr Stmt CmpOp Operator BoolOp PyData Addr Value Scope)
open L2 (V HO Hp upd upd_same upd_ne ne_of ne_of_none SqL SqT Rd Same WX TE TT TA TS PE PT PA PS PSs PC R2 OpR Cx)

section
variable {X : Cx} {T : Tx} {W : WX} {σ : L2.St} {c c0 : Cfg} {d e : D} {v1 v2 : V} {res : Res} {Q : V → Hp → Prop}
/-! ### dicts -/
theorem key_ok {k : Key} {v : V} (h : Top T c d v) (e : keyD d = some k) : v = L2.kV k := by
  cases d with
  | int i => cases e; exact top_int h
  | str i => cases e; exact top_str h
  | _ => cases e
theorem keys_ok {S : Gh} : ∀ {ds : List D} {xs : List V} {ks : List Key}, RL T S ds xs → keysD ds = some ks → xs = ks.map L2.kV
  | [], xs, ks, h, e => by simp only [RL] at h; simp only [keysD] at e; cases e; rw [h] <;> rfl
  | d :: ds, xs, ks, h, e => by
    simp only [RL] at h
    obtain ⟨v, r, rfl, h1, h2⟩ := h
    simp only [keysD] at e
    cases hk : keyD d with
    | none => rw [hk] at e; cases e
    | some k =>
      cases hks : keysD ds with
      | none => rw [hk, hks] at e; cases e
      | some q =>
        rw [hk, hks] at e
        cases e
        rw [keys_ok h2 hks]
        cases d with
        | int i => cases hk; simp only [R] at h1; rw [h1] <;> rfl
        | str i => cases hk; simp only [R] at h1; rw [h1] <;> rfl
        | _ => cases hk
theorem KR.look {κ : Type} [DecidableEq κ] {S : Gh} (k : κ) : ∀ {kvs : List (κ × D)} {xs : List (κ × V)}, KR T S kvs xs → (Iv.look k kvs = none ∧ L2.valV xs k = none) ∨ ∃ d v, Iv.look k kvs = some d ∧ L2.valV xs k = some v ∧ R T S d v
  | [], xs, h => by simp only [KR] at h; subst h; exact .inl ⟨rfl, rfl⟩
  | (q, d) :: r, xs, h => by
    obtain ⟨v, t, rfl, h1, h2⟩ := h
    by_cases e : q = k
    · refine .inr ⟨d, v, ?_, L2.valV_pos e, h1⟩
      simp [Iv.look, List.find?_cons, e]
    · have e1 : Iv.look k ((q, d) :: r) = Iv.look k r := by simp [Iv.look, List.find?_cons, e]
      rw [e1, L2.valV_neg e]
      exact KR.look k h2
theorem KR.any {κ : Type} [DecidableEq κ] {S : Gh} (k : κ) : ∀ {kvs : List (κ × D)} {xs : List (κ × V)}, KR T S kvs xs → (kvs.any fun kv => decide (kv.1 = k)) = xs.any fun kv => decide (kv.1 = k)
  | [], xs, h => by simp only [KR] at h; subst h; rfl
  | (q, d) :: r, xs, h => by
    obtain ⟨v, t, rfl, h1, h2⟩ := h
    simp only [List.any_cons, KR.any k h2]
theorem KR.append {κ : Type} {S : Gh} : ∀ {ds es : List (κ × D)} {xs ys : List (κ × V)}, KR T S ds xs → KR T S es ys → KR T S (ds ++ es) (xs ++ ys)
  | [], es, xs, ys, h, h' => by simp only [KR] at h; subst h; exact h'
  | (k, d) :: ds, es, xs, ys, h, h' => by
    obtain ⟨v, r, e, h1, h2⟩ := h
    subst e
    exact ⟨v, r ++ ys, rfl, h1, KR.append h2 h'⟩
theorem KR.map {κ : Type} [DecidableEq κ] {S : Gh} {k : κ} {y : D} {z : V} (hy : R T S y z) : ∀ {ds : List (κ × D)} {xs : List (κ × V)}, KR T S ds xs →
    KR T S (ds.map fun kv => if kv.1 = k then (kv.1, y) else kv) (xs.map fun kv => if kv.1 = k then (kv.1, z) else kv)
  | [], xs, h => by simp only [KR] at h; subst h; exact rfl
  | (q, d) :: ds, xs, h => by
    obtain ⟨v, r, e, h1, h2⟩ := h
    subst e
    rw [List.map_cons, List.map_cons]
    by_cases hq : q = k
    · simp only [hq, if_true]
      exact ⟨z, _, rfl, hy, KR.map hy h2⟩
    · simp only [hq, if_false]
      exact ⟨v, _, rfl, h1, KR.map hy h2⟩
theorem KR.put {κ : Type} [DecidableEq κ] {S : Gh} {k : κ} {y : D} {z : V} {ds : List (κ × D)} {xs : List (κ × V)} (h : KR T S ds xs) (hy : R T S y z) : KR T S (putK k y ds) (L2.putK xs k z) := by
  unfold putK L2.putK
  rw [KR.any k h]
  split
  · exact KR.map hy h
  · exact h.append ⟨z, [], rfl, hy, rfl⟩
theorem KR.del {κ : Type} [DecidableEq κ] {S : Gh} (k : κ) : ∀ {ds : List (κ × D)} {xs : List (κ × V)}, KR T S ds xs → KR T S (delK k ds) (L2.dropK xs k)
  | [], xs, h => by simp only [KR] at h; subst h; exact rfl
  | (q, d) :: ds, xs, h => by
    obtain ⟨v, r, e, h1, h2⟩ := h
    subst e
    unfold delK L2.dropK
    by_cases hq : q = k
    · rw [List.filter_cons_of_neg (by simp [hq]), List.filter_cons_of_neg (by simp [hq])]
      exact KR.del k h2
    · rw [List.filter_cons_of_pos (by simp [hq]), List.filter_cons_of_pos (by simp [hq])]
      exact ⟨v, _, rfl, h1, KR.del k h2⟩
theorem KR.length {κ : Type} {S : Gh} : ∀ {ds : List (κ × D)} {xs : List (κ × V)}, KR T S ds xs → xs.length = ds.length
  | [], xs, h => by simp only [KR] at h; rw [h] <;> rfl
  | (k, d) :: ds, xs, h => by
    obtain ⟨v, r, e, _, h2⟩ := h
    rw [e, List.length_cons, List.length_cons, KR.length h2]

/-! ### comparisons -/
def rInC (K : PySem.W.Frag) : R2 := fun x y H Q => L2.rInD K x y H Q ∨ ((∃ d ds, L2.Dp K H x d ∧ L2.Dp K H y (.tuple ds) ∧ shp d = true ∧ shp (.list ds) = true ∧ Q (.bl (ds.any fun z => PyData.eqv z d)) H) ∨ ∃ a o, y = .ref a ∧ L2.DGet H a x o ∧ Q (.bl o.isSome) H)
def rNotInC (K : PySem.W.Frag) : R2 := fun x y H Q => L2.rNotInD K x y H Q ∨ ((∃ d ds, L2.Dp K H x d ∧ L2.Dp K H y (.tuple ds) ∧ shp d = true ∧ shp (.list ds) = true ∧ Q (.bl (!ds.any fun z => PyData.eqv z d)) H) ∨ ∃ a o, y = .ref a ∧ L2.DGet H a x o ∧ Q (.bl (!o.isSome)) H)
theorem op_inTup (hu : X.A.units + 65 < PySem.cLine) : OpR X (PySem.compareOp .In) (fun x y H Q => ∃ d ds, L2.Dp X.K H x d ∧ L2.Dp X.K H y (.tuple ds) ∧ shp d = true ∧ shp (.list ds) = true ∧ Q (.bl (ds.any fun z => PyData.eqv z d)) H) := by
  intro pins s σ H x y v u Q I rx ry h
  obtain ⟨d, ds, hd, he, sd, se, q⟩ := h
  obtain ⟨as, r1⟩ := L2.Dp.reads I d x v hd rx
  obtain ⟨bs, r2⟩ := L2.Dp.reads I (.tuple ds) y u he ry
  exact PySem.SeqAt.in_tuple_reads r2 r1 (PySem.SeqAt.canLay_of_shaped se) (PySem.SeqAt.canLay_of_shaped sd) (PyProof.Rows.room_in_shaped sd hu) ⟨.bl _, H, I, rfl, q⟩
theorem op_notInTup (hu : X.A.units + 65 < PySem.cLine) : OpR X (PySem.compareOp .NotIn) (fun x y H Q => ∃ d ds, L2.Dp X.K H x d ∧ L2.Dp X.K H y (.tuple ds) ∧ shp d = true ∧ shp (.list ds) = true ∧ Q (.bl (!ds.any fun z => PyData.eqv z d)) H) := by
  intro pins s σ H x y v u Q I rx ry h
  obtain ⟨d, ds, hd, he, sd, se, q⟩ := h
  obtain ⟨as, r1⟩ := L2.Dp.reads I d x v hd rx
  obtain ⟨bs, r2⟩ := L2.Dp.reads I (.tuple ds) y u he ry
  exact PySem.SeqAt.notIn_tuple_reads r2 r1 (PySem.SeqAt.canLay_of_shaped se) (PySem.SeqAt.canLay_of_shaped sd) (PyProof.Rows.room_in_shaped sd hu) ⟨.bl _, H, I, rfl, q⟩
theorem op_inDict (hu : X.A.units + 65 < PySem.cLine) : OpR X (PySem.compareOp .In) (fun x y H Q => ∃ a o, y = .ref a ∧ L2.DGet H a x o ∧ Q (.bl o.isSome) H) := by
  intro pins s σ H x y v u Q I rx ry h
  obtain ⟨a, o, rfl, g, q⟩ := h
  cases ry
  exact L2.d_in (by omega) I g rx fun s3 I3 => ⟨.bl o.isSome, H, I3, rfl, q⟩
theorem op_notInDict (hu : X.A.units + 65 < PySem.cLine) : OpR X (PySem.compareOp .NotIn) (fun x y H Q => ∃ a o, y = .ref a ∧ L2.DGet H a x o ∧ Q (.bl (!o.isSome)) H) := by
  intro pins s σ H x y v u Q I rx ry h
  obtain ⟨a, o, rfl, g, q⟩ := h
  cases ry
  exact L2.d_notIn (by omega) I g rx fun s3 I3 => ⟨.bl (!o.isSome), H, I3, rfl, q⟩
def rCmp (K : PySem.W.Frag) : CmpOp → R2
  | .Lt => L2.rI0 fun i j => .bl (decide (i < j))
  | .LtE => L2.rI0 fun i j => .bl (decide (i ≤ j))
  | .Gt => L2.rI0 fun i j => .bl (decide (j < i))
  | .GtE => L2.rI0 fun i j => .bl (decide (j ≤ i))
  | .Eq => L2.rEqD K
  | .NotEq => L2.rNeD K
  | .In => rInC K
  | .NotIn => rNotInC K
  | .Is => fun x y H Q => y = .non ∧ Q (.bl (decide (x = .non))) H
  | .IsNot => fun x y H Q => y = .non ∧ Q (.bl (!decide (x = .non))) H
theorem op_cmp (hu : X.A.units + 65 < PySem.cLine) (op : CmpOp) : OpR X (PySem.compareOp op) (rCmp X.K op) := by
  cases op with
  | Lt => exact L2.op_lt
  | LtE => exact L2.op_le
  | Gt => exact L2.op_gt
  | GtE => exact L2.op_ge
  | Eq => exact L2.op_eqD (by omega)
  | NotEq => exact L2.op_neD (by omega)
  | In => exact (L2.op_inD hu).or ((op_inTup hu).or (op_inDict hu))
  | NotIn => exact (L2.op_notInD hu).or ((op_notInTup hu).or (op_notInDict hu))
  | Is => exact L2.op_isN
  | IsNot => exact L2.op_notN
theorem toPys_of {ds : List D} {q : PyData} (h : toPy (.lst ds) = some q) : ∃ qs, toPys ds = some qs ∧ q = .list qs := by
  simp only [toPy] at h
  obtain ⟨qs, a, b⟩ := Option.map_eq_some_iff.mp h
  exact ⟨qs, a, b.symm⟩
theorem ne_non {S : Gh} {v : V} (h : R T S d v) (hd : d ≠ .non) : v ≠ .non := by
  intro z
  subst z
  cases d <;> simp [R] at h hd
theorem Top.ne_non {v : V} (h : Top T c d v) (hd : d ≠ .non) : v ≠ .non := by
  cases d with
  | lst ds => obtain ⟨a, xs, e, _⟩ := top_lst h; rw [e]; exact (fun z => nomatch z)
  | non => exact absurd rfl hd
  | _ => exact Iv.ne_non h hd
theorem cmpD_eq (d e : D) : cmpD .Eq d e = eqD d e := by cases d <;> cases e <;> rfl
theorem cmpD_ne (d e : D) : cmpD .NotEq d e = (eqD d e).map (!·) := by cases d <;> cases e <;> rfl
theorem cmpD_inL (d : D) (ds : List D) : cmpD .In d (.lst ds) = inD d ds := by cases d <;> rfl
theorem cmpD_inT (d : D) (ds : List D) : cmpD .In d (.tup ds) = inD d ds := by cases d <;> rfl
theorem cmpD_niL (d : D) (ds : List D) : cmpD .NotIn d (.lst ds) = (inD d ds).map (!·) := by cases d <;> rfl
theorem cmpD_niT (d : D) (ds : List D) : cmpD .NotIn d (.tup ds) = (inD d ds).map (!·) := by cases d <;> rfl
/-- a comparison of two readable things -/
theorem cmp_ok (ok : Ok T σ c) {op : CmpOp} {b : Bool} (h1 : Top T c d v1) (h2 : Top T c e v2) (h : cmpD op d e = some b) (q : Q (.bl b) c.H) : rCmp T.K op v1 v2 c.H Q := by
  have eqC : ∀ {b'}, eqD d e = some b' → ∃ p r, toPy d = some p ∧ toPy e = some r ∧ shp p = true ∧ shp r = true ∧ b' = PyData.eqv p r := by
    intro b' he
    unfold eqD at he
    split at he
    · rename_i p r hp hr
      split at he
      · rename_i hs
        obtain ⟨s1, s2⟩ := Bool.and_eq_true_iff.mp hs
        cases he
        exact ⟨p, r, hp, hr, s1, s2, rfl⟩
      · cases he
    · cases he
  have inC' : ∀ {ds b'}, inD d ds = some b' → ∃ p qs, toPy d = some p ∧ toPys ds = some qs ∧ shp p = true ∧ shp (.list qs) = true ∧ b' = qs.any fun z => PyData.eqv z p := by
    intro ds b' he
    unfold inD at he
    split at he
    · rename_i p r hp hr
      split at he
      · rename_i hs
        obtain ⟨s1, s2⟩ := Bool.and_eq_true_iff.mp hs
        cases he
        exact ⟨p, r, hp, hr, s1, s2, rfl⟩
      · cases he
    · cases he
  cases op with
  | Lt => cases d <;> cases e <;> cases h; exact ⟨_, _, top_int h1, top_int h2, q⟩
  | LtE => cases d <;> cases e <;> cases h; exact ⟨_, _, top_int h1, top_int h2, q⟩
  | Gt => cases d <;> cases e <;> cases h; exact ⟨_, _, top_int h1, top_int h2, q⟩
  | GtE => cases d <;> cases e <;> cases h; exact ⟨_, _, top_int h1, top_int h2, q⟩
  | Eq =>
    obtain ⟨p, r, hp, hr, s1, s2, rfl⟩ := eqC ((cmpD_eq d e).symm.trans h)
    exact ⟨p, r, h1.dp ok hp, h2.dp ok hr, s1, s2, q⟩
  | NotEq =>
    have h' : (eqD d e).map (!·) = some b := (cmpD_ne d e).symm.trans h
    obtain ⟨b', he, rfl⟩ := Option.map_eq_some_iff.mp h'
    obtain ⟨p, r, hp, hr, s1, s2, rfl⟩ := eqC he
    exact ⟨p, r, h1.dp ok hp, h2.dp ok hr, s1, s2, q⟩
  | In =>
    cases e with
    | lst ds =>
      obtain ⟨p, qs, hp, hr, s1, s2, rfl⟩ := inC' ((cmpD_inL d ds).symm.trans h)
      exact .inl ⟨p, qs, h1.dp ok hp, h2.dp ok (by simp only [toPy, hr]; rfl), s1, s2, q⟩
    | tup ds =>
      obtain ⟨p, qs, hp, hr, s1, s2, rfl⟩ := inC' ((cmpD_inT d ds).symm.trans h)
      exact .inr (.inl ⟨p, qs, h1.dp ok hp, h2.dp ok (by simp only [toPy, hr]; rfl), s1, s2, q⟩)
    | _ => cases d <;> cases h
  | NotIn =>
    cases e with
    | lst ds =>
      have h' : (inD d ds).map (!·) = some b := (cmpD_niL d ds).symm.trans h
      obtain ⟨b', he, rfl⟩ := Option.map_eq_some_iff.mp h'
      obtain ⟨p, qs, hp, hr, s1, s2, rfl⟩ := inC' he
      exact .inl ⟨p, qs, h1.dp ok hp, h2.dp ok (by simp only [toPy, hr]; rfl), s1, s2, q⟩
    | tup ds =>
      have h' : (inD d ds).map (!·) = some b := (cmpD_niT d ds).symm.trans h
      obtain ⟨b', he, rfl⟩ := Option.map_eq_some_iff.mp h'
      obtain ⟨p, qs, hp, hr, s1, s2, rfl⟩ := inC' he
      exact .inr (.inl ⟨p, qs, h1.dp ok hp, h2.dp ok (by simp only [toPy, hr]; rfl), s1, s2, q⟩)
    | _ => cases d <;> cases h
  | Is =>
    cases e with
    | non =>
      refine ⟨top_non h2, ?_⟩
      cases d with
      | non => cases h; rw [top_non h1]; simpa using q
      | _ => cases h; rw [decide_eq_false (h1.ne_non (by intro z; cases z))]; exact q
    | _ => cases d <;> cases h
  | IsNot =>
    cases e with
    | non =>
      refine ⟨top_non h2, ?_⟩
      cases d with
      | non => cases h; rw [top_non h1]; simpa using q
      | _ => cases h; rw [decide_eq_false (h1.ne_non (by intro z; cases z))]; exact q
    | _ => cases d <;> cases h
end
end Iv
set_option linter.all false
set_option autoImplicit false
set_option maxRecDepth 100000
set_option maxHeartbeats 1000000
/-! Iv7: rules of expressions. -/
namespace Iv
open PySem (Str Expr Stmt CmpOp Operator BoolOp PyData Addr Value Scope)
open L2 (V HO Hp upd upd_same upd_ne ne_of ne_of_none SqL SqT Rd Same WX TE TT TA TS PE PT PA PS PSs PC PW R2 OpR Cx)

section
variable {X : Cx} {T : Tx} {W : WX} {σ : L2.St} {c c0 : Cfg} {d e : D} {v1 v2 : V} {res : Res} {Q : V → Hp → Prop}
theorem cview_ok (ok : Ok T σ c) : ∀ {r : Res} {v : V} {k : C}, RR T c0 c r v → cview c.g r = some k → ∃ a, v = .ref a ∧ CR T c.S c.H a k
  | .val d, v, k, h, e => by
    cases d with
    | lst ds =>
      cases e
      have h' : R T c.S (.lst ds) v := h
      simp only [R] at h'
      obtain ⟨a, xs, ev, g, r⟩ := h'
      exact ⟨a, ev, xs, ok.sub _ _ g, r⟩
    | _ => cases e
  | .fresh k, v, _, ⟨a, ev, g, cr, n, o⟩, e => by cases e; exact ⟨a, ev, cr⟩
  | .brw p, v, k, ⟨h, _⟩, e => by
    have hk : cont c.g p = some k := e
    exact ⟨_, h (live_at hk), (cont_at ok hk).2⟩
theorem inD_key {d : D} {k : Key} {a : Addr} {xs : List (Key × V)} (h1 : Top T c d v1) (hk : keyD d = some k) (hx : c.H a = some (.dK xs)) : L2.DGet c.H a v1 (L2.valV xs k) := by
  rw [key_ok h1 hk]; exact L2.DGet.k hx
theorem inD_keys (ok : Ok T σ c) {ds : List D} {k : List Key} {a : Addr} {xs : List (List Key × V)} (h1 : Top T c (.tup ds) v1) (hk : keysD ds = some k) (hx : c.H a = some (.dT xs)) : L2.DGet c.H a v1 (L2.valV xs k) := by
  obtain ⟨b, ys, rfl, g, hy, r⟩ := top_tup ok h1
  have z := keys_ok r hk
  subst z
  exact L2.DGet.t hx hy
theorem look_some {κ : Type} [DecidableEq κ] {S : Gh} {k : κ} {kvs : List (κ × D)} {xs : List (κ × V)} (h : KR T S kvs xs) : (look k kvs).isSome = (L2.valV xs k).isSome := by
  rcases KR.look k h with ⟨a, b⟩ | ⟨d, v, a, b, _⟩ <;> rw [a, b] <;> rfl
theorem in_ok (ok : Ok T σ c) {k : C} {b : Bool} {a : Addr} (h1 : Top T c d v1) (hk : CR T c.S c.H a k) (hn : ∀ ds, k ≠ .lst ds) (h : inC d k = some b) : ∃ o, L2.DGet c.H a v1 o ∧ o.isSome = b := by
  cases k with
  | lst ds => exact absurd rfl (hn ds)
  | dK kvs =>
    obtain ⟨xs, hx, kr⟩ := hk
    simp only [inC] at h
    obtain ⟨q, hq, rfl⟩ := Option.map_eq_some_iff.mp h
    exact ⟨_, inD_key h1 hq hx, (look_some kr).symm⟩
  | dT kvs =>
    obtain ⟨xs, hx, kr⟩ := hk
    cases d with
    | tup ds =>
      simp only [inC] at h
      obtain ⟨q, hq, rfl⟩ := Option.map_eq_some_iff.mp h
      exact ⟨_, inD_keys ok h1 hq hx, (look_some kr).symm⟩
    | _ => cases h
theorem cmpR_ok (ok : Ok T σ c) {op : CmpOp} {x y : Res} {b : Bool} (h1 : RR T c0 c x v1) (h2 : RR T c0 c y v2) (h : cmpR op x y c.g = some b) (q : Q (.bl b) c.H) : rCmp T.K op v1 v2 c.H Q := by
  have plain : (∀ {b'}, (match dview c.g x, dview c.g y with | some a, some b => cmpD op a b | _, _ => none) = some b' → b' = b → rCmp T.K op v1 v2 c.H Q) := by
    intro b' h' eb
    subst eb
    split at h'
    · rename_i d e hd he
      exact cmp_ok ok (view_ok ok h1 hd) (view_ok ok h2 he) h' q
    · cases h'
  unfold cmpR at h
  split at h
  · rename_i kvs hy
    obtain ⟨d, hd, hb⟩ := Option.bind_eq_some_iff.mp h
    obtain ⟨a, rfl, cr⟩ := cview_ok ok h2 hy
    obtain ⟨o, g, e⟩ := in_ok ok (view_ok ok h1 hd) cr (fun ds z => by cases z) hb
    exact .inr (.inr ⟨a, o, rfl, g, by rw [e]; exact q⟩)
  · rename_i kvs hy
    obtain ⟨d, hd, hb⟩ := Option.bind_eq_some_iff.mp h
    obtain ⟨a, rfl, cr⟩ := cview_ok ok h2 hy
    obtain ⟨o, g, e⟩ := in_ok ok (view_ok ok h1 hd) cr (fun ds z => by cases z) hb
    exact .inr (.inr ⟨a, o, rfl, g, by rw [e]; exact q⟩)
  · rename_i kvs hy
    obtain ⟨d, hd, hb⟩ := Option.bind_eq_some_iff.mp h
    obtain ⟨b', hb', rfl⟩ := Option.map_eq_some_iff.mp hb
    obtain ⟨a, rfl, cr⟩ := cview_ok ok h2 hy
    obtain ⟨o, g, e⟩ := in_ok ok (view_ok ok h1 hd) cr (fun ds z => by cases z) hb'
    exact .inr (.inr ⟨a, o, rfl, g, by rw [e]; exact q⟩)
  · rename_i kvs hy
    obtain ⟨d, hd, hb⟩ := Option.bind_eq_some_iff.mp h
    obtain ⟨b', hb', rfl⟩ := Option.map_eq_some_iff.mp hb
    obtain ⟨a, rfl, cr⟩ := cview_ok ok h2 hy
    obtain ⟨o, g, e⟩ := in_ok ok (view_ok ok h1 hd) cr (fun ds z => by cases z) hb'
    exact .inr (.inr ⟨a, o, rfl, g, by rw [e]; exact q⟩)
  · exact plain h rfl
end

section
variable {X : Cx} {P : Pg} {W : WX} {a b e e1 e2 : Expr} {f f1 f2 : M Res} {pos : PySem.Pos}
abbrev PEf (X : Cx) (W : WX) (e : Expr) (f : M Res) : Prop := PE X e (tE (tx X) W f)
abbrev PTf (X : Cx) (W : WX) (e : Expr) (f : M Bool) : Prop := PT X e (tB (tx X) W f)
theorem PE.imp {t t' : TE} (h : PE X e t) (i : ∀ σ H Q, t' σ H Q → t σ H Q) : PE X e t' := ⟨fun pins s σ H Q I hw => h.run pins s σ H Q I (i σ H Q hw)⟩
theorem PT.imp {t t' : TT} (h : PT X e t) (i : ∀ σ H Q, t' σ H Q → t σ H Q) : PT X e t' := ⟨fun pins s σ H Q I hw => h.run pins s σ H Q I (i σ H Q hw)⟩
theorem PW.imp {t t' : TT} (h : PW X e t) (i : ∀ σ H Q, t' σ H Q → t σ H Q) : PW X e t' := ⟨fun w pins s σ H Q I hw => h.run w pins s σ H Q I (i σ H Q hw)⟩
theorem PA.imp {es : List Expr} {t t' : TA} (h : PA X es t) (i : ∀ σ H Q, t' σ H Q → t σ H Q) : PA X es t' := ⟨fun w pins s σ H Q I hw => h.run w pins s σ H Q I (i σ H Q hw)⟩

/-! ### names, constants -/
theorem r_nm {i : Nat} {x : Str} (hN : X.N[i]? = some x) (hv : L2.Vis X.env.scope x) (hd : (x == ("__debug__" : Str)) = false) (hcd : (x == ("__classdict__" : Str)) = false) : PEf X W (.Name x pos) (ev P (.nm i)) := by
  refine PE.imp (L2.pe_var hN hv hd hcd) ?_
  rintro σ H Q ⟨c, r, rfl, ok, h, p⟩
  simp only [ev] at h
  obtain ⟨a, ha, rfl⟩ := liftO_some h
  cases hr : c.g.rho[i]? with
  | none => rw [hr] at ha; cases ha
  | some s =>
    rw [hr] at ha
    have brw : ∀ k, s.cont = some k → a = .brw (.slot i) → L2.tVar i σ c.H Q := by
      intro k hk e
      subst e
      have hc : cont c.g (.slot i) = some k := by show (c.g.rho[i]?).bind Sl.cont = some k; rw [hr]; exact hk
      obtain ⟨hs, _⟩ := ok.own i k hc
      exact ⟨_, hs, p.fin ok ⟨fun _ => rfl, trivial⟩⟩
    cases s with
    | val d =>
      cases ha
      obtain ⟨v, hs, r⟩ := ok.val i d hr
      exact ⟨v, hs, p.fin ok r⟩
    | un => cases ha
    | own k => cases ha; exact brw k rfl rfl
    | ref k => cases ha; exact brw k rfl rfl
    | lck l k => cases ha; exact brw k rfl rfl
theorem ret_fin {α β : Type} {T : Tx} {σ : L2.St} {Rel : Cfg → Cfg → α → β → Prop} {a : α} {v : β} {H : Hp} {Q : β → Hp → Prop} (rel : ∀ c, Rel c c a v) (h : tM T W Rel (ret a) σ H Q) : Q v H := by
  obtain ⟨c, r, rfl, ok, h, p⟩ := h
  cases h
  exact p.fin ok (rel c)
theorem r_int' {i : Int} {j : Nat} : PEf X W (.Constant (.int i) j pos) (ev P (.int i)) := PE.imp L2.pe_int fun σ H Q h => by
  simp only [ev] at h
  exact ret_fin (v := V.int i) (fun c => r_int (T := tx X) (S := c.S) i) h
theorem r_str' {i : Str} {j : Nat} : PEf X W (.Constant (.str i) j pos) (ev P (.str i)) := PE.imp L2.pe_str fun σ H Q h => by
  simp only [ev] at h
  exact ret_fin (v := V.str i) (fun c => r_str (T := tx X) (S := c.S) i) h
theorem r_bl' {i : Bool} {j : Nat} : PEf X W (.Constant (.bool i) j pos) (ev P (.bl i)) := PE.imp L2.pe_bl fun σ H Q h => by
  simp only [ev] at h
  exact ret_fin (v := V.bl i) (fun c => r_bl (T := tx X) (S := c.S) i) h
theorem r_non' {j : Nat} : PEf X W (.Constant .none j pos) (ev P .non) := PE.imp L2.pe_non fun σ H Q h => by
  simp only [ev] at h
  exact ret_fin (v := V.non) (fun c => r_non (T := tx X) (S := c.S)) h
theorem r_glob {x : Str} (hg : L2.Gl X x) (hd : (x == ("__debug__" : Str)) = false) (hx : ∀ d, P.glob x = some d → ∃ u v, X.mg x = some u ∧ L2.RelV v u ∧ ∀ S, R (tx X) S d v) (h0 : P.glob x ≠ none) : PEf X W (.Name x pos) (ev P (.glob x)) := by
  obtain ⟨d, hd'⟩ := Option.ne_none_iff_exists'.mp h0
  obtain ⟨u, v, hm, rv, hr⟩ := hx d hd'
  refine PE.imp (L2.pe_glob hg hm rv hd) ?_
  rintro σ H Q ⟨c, r, rfl, ok, h, p⟩
  simp only [ev] at h
  obtain ⟨a, ha, rfl⟩ := liftO_some h
  rw [hd'] at ha
  cases ha
  exact p.fin ok (hr c.S)

/-! ### two in a row -/
theorem two {T : Tx} {k : Res → Res → M Res} {r : R2} (hk : ∀ (σ : L2.St) (c0 c : Cfg) x y v1 v2 Q z, Step true c0 c → Ok T σ c → RR T c0 c x v1 → RR T c0 c y v2 → k x y c.g = some z → Post T W σ (RR T) c z Q → r v1 v2 c.H Q) :
    ∀ σ H Q, tE T W (bnd f1 fun x => bnd f2 fun y => k x y) σ H Q → L2.tOp r (tE T W f1) (tE T W f2) σ H Q := by
  rintro σ H Q ⟨c, z, rfl, ok, h, p⟩
  refine tM_bnd rr_backs ok h p fun x v1 c1 s1 ok1 rr1 h1 p1 => ?_
  refine tM_bnd rr_backs ok1 h1 p1 fun y v2 c2 s2 ok2 rr2 h2 p2 => ?_
  exact hk σ c c2 x y v1 v2 Q z (s1.trans s2) ok2 (rr1.mono s2) (rr2.back s1) h2 p2
theorem one {T : Tx} {k : Res → M Res} {r : V → Hp → (V → Hp → Prop) → Prop} (hk : ∀ (σ : L2.St) (c0 c : Cfg) x v1 Q z, Step true c0 c → Ok T σ c → RR T c0 c x v1 → k x c.g = some z → Post T W σ (RR T) c z Q → r v1 c.H Q) :
    ∀ σ H Q, tE T W (bnd f1 fun x => k x) σ H Q → L2.tUn r (tE T W f1) σ H Q := by
  rintro σ H Q ⟨c, z, rfl, ok, h, p⟩
  exact tM_bnd rr_backs ok h p fun x v1 c1 s1 ok1 rr1 h1 p1 => hk σ c c1 x v1 Q z s1 ok1 rr1 h1 p1
theorem r_bin {op : Operator} {ta tb : T} (ha : PEf X W a (ev P ta)) (hb : PEf X W b (ev P tb)) : PEf X W (.BinOp a op b pos) (ev P (.bin op ta tb)) := by
  refine PE.imp (L2.pe_op (op_bin op) ha hb) ?_
  simp only [ev]
  refine two fun σ c0 c x y v1 v2 Q z st ok h1 h2 h p => ?_
  obtain ⟨r, hr, rfl⟩ := liftO_some h
  split at hr
  · rename_i d e hd he
    exact bin_ok ok (view_ok ok h1 hd) (view_ok ok h2 he) hr p
  · cases hr
theorem r_neg {ta : T} (ha : PEf X W a (ev P ta)) : PEf X W (.UnaryOp .USub a pos) (ev P (.neg ta)) := by
  refine PE.imp (L2.pe_un L2.un_neg ha) ?_
  simp only [ev]
  refine one fun σ c0 c x v1 Q z st ok h1 h p => ?_
  obtain ⟨r, hr, rfl⟩ := liftO_some h
  split at hr
  · rename_i i hd
    cases hr
    exact ⟨i, top_int (view_ok ok h1 hd), p.read ok (r_int _)⟩
  · cases hr
theorem r_cmp {op : CmpOp} {ta tb : T} (hu : X.A.units + 65 < PySem.cLine) (hm : PySem.behindInMarks op b = false) (ha : PEf X W a (ev P ta)) (hb : PEf X W b (ev P tb)) : PEf X W (.Compare a [op] [b] pos) (ev P (.cmp op ta tb)) := by
  refine PE.imp (L2.pe_cmpR (op_cmp hu op) ha hb hm) ?_
  simp only [ev]
  refine two fun σ c0 c x y v1 v2 Q z st ok h1 h2 h p => ?_
  obtain ⟨r, hr, rfl⟩ := liftO_some h
  obtain ⟨b', hb', rfl⟩ := Option.map_eq_some_iff.mp hr
  exact cmpR_ok ok h1 h2 hb' (p.read ok (r_bl _))
theorem rt_cmp {op : CmpOp} {ta tb : T} (hu : X.A.units + 65 < PySem.cLine) (hm : PySem.behindInMarks op b = false) (ha : PEf X W a (ev P ta)) (hb : PEf X W b (ev P tb)) : PTf X W (.Compare a [op] [b] pos) (tst P (.cmp op ta tb)) := by
  refine PT.imp (L2.pt_cmpR (op_cmp hu op) ha hb hm) ?_
  rintro σ H Q ⟨c, z, rfl, ok, h, p⟩
  simp only [tst] at h
  refine tM_bnd rb_backs ok h p fun x v1 c1 s1 ok1 rr1 h1 p1 => ?_
  refine tM_bnd rb_backs ok1 h1 p1 fun y v2 c2 s2 ok2 rr2 h2 p2 => ?_
  obtain ⟨b', hb', rfl⟩ := liftO_some h2
  exact cmpR_ok (c0 := c) ok2 (rr1.mono s2) (rr2.back s1) hb' ⟨b', rfl, p2.fin ok2 rfl⟩
end
end Iv
set_option linter.all false
set_option autoImplicit false
set_option maxRecDepth 100000
set_option maxHeartbeats 1000000
/-! Iv8: truth, and, or, not, displays, items, slices. -/
namespace Iv
open PySem (Str Expr Stmt CmpOp Operator BoolOp PyData Addr Value Scope)
open L2 (V HO Hp upd upd_same upd_ne ne_of ne_of_none SqL SqT Rd Same WX TE TT TA TS PE PT PA PS PSs PC PW R2 OpR Cx)

section
variable {X : Cx} {T : Tx} {W : WX} {σ : L2.St} {c c0 : Cfg} {d e : D} {v v1 v2 : V} {res : Res}
theorem tru_of {K : PySem.W.Frag} (h : Top T c d v) (ok : Ok T σ c) {b : Bool} (hb : truD d = some b) : L2.TruV T.K v c.H b := by
  cases d with
  | non => cases hb; rw [top_non h]; rfl
  | bl x => cases hb; rw [top_bl h]; rfl
  | int i => cases hb; rw [top_int h]; rfl
  | str x =>
    simp only [truD] at hb
    split at hb
    · rename_i hl; cases hb; rw [top_str h]; exact ⟨le_line hl, rfl⟩
    · cases hb
  | lst ds =>
    cases hb
    obtain ⟨a, xs, rfl, hx, r⟩ := top_lst h
    exact .inl ⟨xs, SqL.of hx, by have := r.nil_iff; cases xs <;> cases ds <;> simp_all⟩
  | tup ds =>
    cases hb
    obtain ⟨a, xs, rfl, _, hx, r⟩ := top_tup ok h
    exact .inr (.inl ⟨xs, SqT.of hx, by have := r.nil_iff; cases xs <;> cases ds <;> simp_all⟩)
  | _ => cases hb
theorem KR.nil_iff {κ : Type} {S : Gh} {ds : List (κ × D)} {xs : List (κ × V)} (h : KR T S ds xs) : xs.isEmpty = ds.isEmpty := by
  have e := h.length
  cases xs <;> cases ds <;> simp_all
theorem truR_ok (ok : Ok T σ c) {r : Res} {z : Out Bool × Sg} (h : RR T c0 c r v) (hb : truR r c.g = some z) : ∃ b, z = (.ok b, c.g) ∧ L2.TruV T.K v c.H b := by
  unfold truR at hb
  obtain ⟨b, hf, rfl⟩ := liftO_some hb
  clear hb
  have hb := hf
  refine ⟨b, rfl, ?_⟩
  cases r with
  | brw p =>
    cases hk : cont c.g p with
    | none => simp only [hk] at hb; cases hb
    | some k =>
      simp only [hk] at hb
      have hv := h.1 (live_at hk)
      obtain ⟨_, cr⟩ := cont_at ok hk
      subst hv
      cases k with
      | lst ds =>
        cases hb
        obtain ⟨xs, hx, r⟩ := cr
        exact .inl ⟨xs, SqL.of hx, by have := r.nil_iff; cases xs <;> cases ds <;> simp_all⟩
      | dK kvs =>
        cases hb
        obtain ⟨xs, hx, r⟩ := cr
        exact .inr (.inr ⟨xs, hx, by rw [r.nil_iff]⟩)
      | dT kvs => cases hb
  | val d => exact tru_of (K := T.K) (view_ok ok h (show dview c.g (.val d) = some d from rfl)) ok hb
  | fresh k =>
    obtain ⟨d, hd, hb'⟩ := Option.bind_eq_some_iff.mp (show (dview c.g (.fresh k)).bind truD = some b from hb)
    exact tru_of (K := T.K) (view_ok ok h hd) ok hb'
end

section
variable {X : Cx} {P : Pg} {W : WX} {a b e e1 e2 : Expr} {es : List Expr} {pos : PySem.Pos}
/-- an expression's truth, where the model asks the value -/
def plainTest : Expr → Bool
  | .BoolOp .. => false
  | .Compare .. => false
  | .UnaryOp .Not _ _ => false
  | .NamedExpr .. => false
  | .IfExp .. => false
  | .Constant .. => false
  | _ => true
theorem rt_any {ta : T} (ht : tst P ta = bnd (ev P ta) truR) (hp : ∀ whole, PySem.isTrue a X.env whole = (do let v ← whole; PySem.standAt a.pos; PySem.holding [v] (PySem.truthy v))) (ha : PEf X W a (ev P ta)) : PTf X W a (tst P ta) := by
  refine PT.imp (L2.pt_truth ha hp) ?_
  rw [ht]
  rintro σ H Q ⟨c, z, rfl, ok, h, p⟩
  refine tM_bnd rb_backs ok h p fun x v1 c1 s1 ok1 rr1 h1 p1 => ?_
  obtain ⟨b, rfl, tv⟩ := truR_ok ok1 rr1 h1
  exact ⟨b, tv, p1.fin ok1 rfl⟩
theorem rt_not {ta : T} (ha : PTf X W a (tst P ta)) : PTf X W (.UnaryOp .Not a pos) (tst P (.not ta)) := by
  refine PT.imp (L2.pt_not ha) ?_
  rintro σ H Q ⟨c, z, rfl, ok, h, p⟩
  simp only [tst] at h
  refine tM_bnd rb_backs ok h p fun x v1 c1 s1 ok1 rr1 h1 p1 => ?_
  cases rr1
  cases h1
  exact p1.fin ok1 rfl
theorem r_not {ta : T} (ha : PEf X W a (ev P ta)) : PEf X W (.UnaryOp .Not a pos) (ev P (.not ta)) := by
  refine PE.imp (L2.pe_notT ha) ?_
  rintro σ H Q ⟨c, z, rfl, ok, h, p⟩
  simp only [ev] at h
  refine tM_bnd rr_backs ok h p fun x v1 c1 s1 ok1 rr1 h1 p1 => ?_
  cases ht : truR x c1.g with
  | none => rw [bnd_none ht] at h1; cases h1
  | some z =>
    obtain ⟨b, rfl, tv⟩ := truR_ok ok1 rr1 ht
    rw [bnd_ok ht] at h1
    cases h1
    exact ⟨b, tv, p1.read ok1 (r_bl _)⟩
theorem r_ite {ec : Expr} {tc ta tb : T} (hc : PTf X W ec (tst P tc)) (ha : PEf X W a (ev P ta)) (hb : PEf X W b (ev P tb)) : PEf X W (.IfExp ec a b pos) (ev P (.ite tc ta tb)) := by
  refine PE.imp (L2.pe_ifExp hc ha hb) ?_
  rintro σ H Q ⟨c, z, rfl, ok, h, p⟩
  simp only [ev] at h
  refine tM_bnd rr_backs ok h p fun x v1 c1 s1 ok1 rr1 h1 p1 => ?_
  cases rr1
  cases x with
  | true => exact L2.iteT ⟨c1, z, rfl, ok1, h1, p1⟩
  | false => exact L2.iteF ⟨c1, z, rfl, ok1, h1, p1⟩
/-! and, or: tests -/
theorem rw_one {op : BoolOp} {ta : T} (ha : PTf X W a (tst P ta)) : PW X (.BoolOp op [a] pos) (tB (tx X) W (bopt P op (.cons ta .nil))) := by
  have e : bopt P op (.cons ta .nil) = tst P ta := by simp only [bopt]
  rw [e]
  cases op with
  | And => exact L2.pw_and1 ha
  | Or => exact L2.pw_or1 ha
theorem rw_cons {op : BoolOp} {ta tb : T} {ts : Ts} {rest : List Expr} (ha : PTf X W a (tst P ta)) (hb : PW X (.BoolOp op (b :: rest) pos) (tB (tx X) W (bopt P op (.cons tb ts)))) : PW X (.BoolOp op (a :: b :: rest) pos) (tB (tx X) W (bopt P op (.cons ta (.cons tb ts)))) := by
  cases op with
  | And =>
    refine PW.imp (L2.pw_and ha hb) ?_
    rintro σ H Q ⟨c, z, rfl, ok, h, p⟩
    rw [bopt] at h
    refine tM_bnd rb_backs ok h p fun x v1 c1 s1 ok1 rr1 h1 p1 => ?_
    cases rr1
    cases x with
    | true => exact L2.iteT ⟨c1, z, rfl, ok1, h1, p1⟩
    | false => cases h1; exact L2.iteF (p1.fin ok1 rfl)
  | Or =>
    refine PW.imp (L2.pw_or ha hb) ?_
    rintro σ H Q ⟨c, z, rfl, ok, h, p⟩
    rw [bopt] at h
    refine tM_bnd rb_backs ok h p fun x v1 c1 s1 ok1 rr1 h1 p1 => ?_
    cases rr1
    cases x with
    | true => cases h1; exact L2.iteT (p1.fin ok1 rfl)
    | false => exact L2.iteF ⟨c1, z, rfl, ok1, h1, p1⟩
/-! and, or: values -/
theorem rb_one {op : BoolOp} {ta : T} (ha : PEf X W a (ev P ta)) : PEf X W (.BoolOp op [a] pos) (bops P op (.cons ta .nil)) := by
  have e : bops P op (.cons ta .nil) = ev P ta := by simp only [bops]
  rw [e]
  exact L2.pe_one ha
theorem rb_cons {op : BoolOp} {ta tb : T} {ts : Ts} {rest : List Expr} (ha : PEf X W a (ev P ta)) (hb : PEf X W (.BoolOp op (b :: rest) pos) (bops P op (.cons tb ts))) : PEf X W (.BoolOp op (a :: b :: rest) pos) (bops P op (.cons ta (.cons tb ts))) := by
  have fin : ∀ {Q : V → Hp → Prop} {c c1 : Cfg} {σ : L2.St} {x : Res} {v1 : V} {z : Out Res × Sg}, Ok (tx X) σ c1 → RR (tx X) c c1 x v1 → Post (tx X) W σ (RR (tx X)) c z Q → Step true c c1 → (match x with | .brw _ => fun _ => none | x => ret x : M Res) c1.g = some z → Q v1 c1.H := by
    intro Q c c1 σ x v1 z ok1 rr1 p st h
    cases x with
    | brw q => cases h
    | val d => cases h; exact p.1 _ rfl v1 c1 rfl st ok1 rr1
    | fresh k => cases h; exact p.1 _ rfl v1 c1 rfl st ok1 rr1
  cases op with
  | And =>
    refine PE.imp (L2.pe_andT ha hb) ?_
    rintro σ H Q ⟨c, z, rfl, ok, h, p⟩
    rw [bops] at h
    refine tM_bnd rr_backs ok h p fun x v1 c1 s1 ok1 rr1 h1 p1 => ?_
    cases ht : truR x c1.g with
    | none => rw [bnd_none ht] at h1; cases h1
    | some y =>
      obtain ⟨t, rfl, tv⟩ := truR_ok ok1 rr1 ht
      rw [bnd_ok ht] at h1
      refine ⟨t, tv, ?_⟩
      cases t with
      | true => exact L2.iteT ⟨c1, z, rfl, ok1, h1, p1⟩
      | false => exact L2.iteF (fin ok1 rr1 p s1 h1)
  | Or =>
    refine PE.imp (L2.pe_orT ha hb) ?_
    rintro σ H Q ⟨c, z, rfl, ok, h, p⟩
    rw [bops] at h
    refine tM_bnd rr_backs ok h p fun x v1 c1 s1 ok1 rr1 h1 p1 => ?_
    cases ht : truR x c1.g with
    | none => rw [bnd_none ht] at h1; cases h1
    | some y =>
      obtain ⟨t, rfl, tv⟩ := truR_ok ok1 rr1 ht
      rw [bnd_ok ht] at h1
      refine ⟨t, tv, ?_⟩
      cases t with
      | true => exact L2.iteT (fin ok1 rr1 p s1 h1)
      | false => exact L2.iteF ⟨c1, z, rfl, ok1, h1, p1⟩

/-! ### lists of expressions -/
abbrev PAf (X : Cx) (W : WX) (es : List Expr) (f : M (List D)) : Prop := PA X es (tDs (tx X) W f)
def noStar : Expr → Bool
  | .Starred .. => false
  | _ => true
theorem star_ok (h : noStar e = true) : PySem.starEach (e :: es) X.env = (false, PySem.eval e X.env) :: PySem.starEach es X.env := by
  cases e <;> first | rfl | (simp [noStar] at h)
theorem rA_nil : PAf X W [] (evs P .nil) := by
  refine PA.imp L2.pa_nil ?_
  rintro σ H Q ⟨c, z, rfl, ok, h, p⟩
  simp only [evs] at h
  cases h
  exact p.fin ok (by simp [RDs, RL])
theorem rA_cons {ta : T} {ts : Ts} (hs : noStar a = true) (ha : PEf X W a (ev P ta)) (hb : PAf X W es (evs P ts)) : PAf X W (a :: es) (evs P (.cons ta ts)) := by
  refine PA.imp (L2.pa_cons ha hb (star_ok hs)) ?_
  rintro σ H Q ⟨c, z, rfl, ok, h, p⟩
  rw [evs] at h
  refine tD_tE (tM_bnd rds_backs ok h p fun d v1 c1 s1 ok1 rr1 h1 p1 => ?_)
  refine tM_bnd rds_backs ok1 h1 p1 fun ds vs c2 s2 ok2 rr2 h2 p2 => ?_
  cases h2
  refine p2.fin ok2 ?_
  show RL (tx X) c2.S (d :: ds) (v1 :: vs)
  simp only [RL]
  exact ⟨v1, vs, rfl, R.mono s2.ge d rr1, rr2⟩
theorem r_lst {ts : Ts} (hb : PAf X W es (evs P ts)) : PEf X W (.List es pos) (ev P (.lst ts)) := by
  refine PE.imp (L2.pe_lst hb) ?_
  rintro σ H Q ⟨c, z, rfl, ok, h, p⟩
  simp only [ev] at h
  refine tM_bnd rr_backs ok h p fun ds vs c1 s1 ok1 rr1 h1 p1 => ?_
  obtain ⟨r, hr, rfl⟩ := liftO_some h1
  split at hr
  · rename_i hl
    cases hr
    exact ⟨by rw [RL.length rr1]; exact le_line hl, fin_lst p1 ok1 rr1⟩
  · cases hr
theorem r_tup {ts : Ts} {k : Nat} (hb : PAf X W es (evs P ts)) : PEf X W (.Tuple es k pos) (ev P (.tup ts)) := by
  refine PE.imp (L2.pe_tup hb) ?_
  rintro σ H Q ⟨c, z, rfl, ok, h, p⟩
  simp only [ev] at h
  refine tM_bnd rr_backs ok h p fun ds vs c1 s1 ok1 rr1 h1 p1 => ?_
  obtain ⟨r, hr, rfl⟩ := liftO_some h1
  split at hr
  · rename_i hl
    cases hr
    exact ⟨by rw [RL.length rr1]; exact le_line hl, fin_tup p1 ok1 rr1⟩
  · cases hr

/-! ### items, slices -/
theorem ixD_eq {α : Type} (xs : List α) (i : Int) : ixD xs i = L2.atI xs i := rfl
def noSlice : Expr → Bool
  | .Slice .. => false
  | _ => true
theorem plain_ix (h : noSlice b = true) : L2.PlainIx b := by
  intro v u
  cases b <;> first | rfl | (simp [noSlice] at h)
def rSub (K : PySem.W.Frag) : R2 := fun x y H Q => L2.rIxL K x y H Q ∨ (L2.rIxT K x y H Q ∨ L2.rIxS x y H Q)
theorem ix_all : L2.IxR X (rSub X.K) := L2.ix_list.or (L2.ix_tup.or L2.ix_str)
theorem RL.at {T : Tx} {S : Gh} {ds : List D} {xs : List V} {i : Int} {d : D} (h : RL T S ds xs) (e : ixD ds i = some d) : ∃ v, L2.atI xs i = some v ∧ R T S d v := by
  unfold ixD at e
  obtain ⟨j, hj, hd⟩ := Option.bind_eq_some_iff.mp e
  obtain ⟨v, hv, r⟩ := h.get hd
  refine ⟨v, ?_, r⟩
  show ((L2.ixN xs.length i).bind fun j => xs[j]?) = some v
  rw [h.length]
  rw [show L2.ixN ds.length i = ixN ds.length i from rfl, hj]
  exact hv
theorem r_sub {ta tb : T} (hn : noSlice b = true) (ha : PEf X W a (ev P ta)) (hb : PEf X W b (ev P tb)) : PEf X W (.Subscript a b pos) (ev P (.sub ta tb)) := by
  refine PE.imp (L2.pe_ix ix_all ha hb (plain_ix hn)) ?_
  simp only [ev]
  refine two fun σ c0 c x y v1 v2 Q z st ok h1 h2 h p => ?_
  obtain ⟨r, hr, rfl⟩ := liftO_some h
  split at hr
  · rename_i d i hd he
    have t1 := view_ok ok h1 hd
    have t2 := view_ok ok h2 he
    unfold subD at hr
    split at hr
    · rename_i ds i
      obtain ⟨w, hw, rfl⟩ := Option.map_eq_some_iff.mp hr
      obtain ⟨q, xs, rfl, hx, rl⟩ := top_lst t1
      obtain ⟨v, hv, rv⟩ := rl.at hw
      exact .inl ⟨q, xs, i, v, rfl, top_int t2, SqL.of hx, hv, p.read ok rv⟩
    · rename_i ds i
      obtain ⟨w, hw, rfl⟩ := Option.map_eq_some_iff.mp hr
      obtain ⟨q, xs, rfl, _, hx, rl⟩ := top_tup ok t1
      obtain ⟨v, hv, rv⟩ := rl.at hw
      exact .inr (.inl ⟨q, xs, i, v, rfl, top_int t2, SqT.of hx, hv, p.read ok rv⟩)
    · rename_i x i
      split at hr
      · rename_i hl
        obtain ⟨k, hk, rfl⟩ := Option.map_eq_some_iff.mp hr
        exact .inr (.inr ⟨x, i, k, top_str t1, top_int t2, le_line hl, hk, p.read ok (r_str _)⟩)
      · cases hr
    · cases hr
  · cases hr
abbrev POf (X : Cx) (W : WX) (o : Option Expr) (f : M (Option Int)) : Prop := L2.PO X o (tM (tx X) W RB f)
theorem ro_none : POf X W none (bound P .absent) := by
  refine ⟨fun pins s σ H Q I h => (L2.po_none).run pins s σ H Q I ?_⟩
  obtain ⟨c, z, rfl, ok, h, p⟩ := h
  simp only [bound] at h
  cases h
  exact p.fin ok rfl
theorem ro_some {ta : T} (hn : bound P ta = bnd (ev P ta) fun r => liftO fun g => match dview g r with | some (.int i) => some (some i) | _ => none) (ha : PEf X W a (ev P ta)) : POf X W (some a) (bound P ta) := by
  refine ⟨fun pins s σ H Q I h => (L2.po_some ha).run pins s σ H Q I ?_⟩
  rw [hn] at h
  obtain ⟨c, z, rfl, ok, h, p⟩ := h
  refine tM_bnd rb_backs ok h p fun x v1 c1 s1 ok1 rr1 h1 p1 => ?_
  obtain ⟨r, hr, rfl⟩ := liftO_some h1
  split at hr
  · rename_i i hd
    cases hr
    exact ⟨i, top_int (view_ok ok1 rr1 hd), p1.fin ok1 rfl⟩
  · cases hr
def rSlc (K : PySem.W.Frag) : V → Option Int → Option Int → Hp → L2.VK → Prop := fun x lo hi H Q => L2.rSlL K x lo hi H Q ∨ (L2.rSlA K x lo hi H Q ∨ L2.rSlS x lo hi H Q)
theorem sl_all : L2.SlR X (rSlc X.K) := L2.sl_list.or (L2.sl_tupA.or L2.sl_str)
theorem RL.cut {T : Tx} {S : Gh} {ds : List D} {xs : List V} (h : RL T S ds xs) (lo hi : Option Int) : RL T S (cutD ds lo hi) (L2.cutV xs lo hi) := by
  unfold cutD L2.cutV
  rw [h.length]
  exact (h.drop _).take _
theorem cut_whole {ds : List D} {lo hi : Option Int} (h1 : sIx ds.length 0 lo = 0) (h2 : sIx ds.length ds.length hi = ds.length) : cutD ds lo hi = ds := by
  unfold cutD
  rw [h1, h2]
  simp
theorem r_slc {ta tl th : T} {lo hi : Option Expr} {p2 : PySem.Pos} (ha : PEf X W a (ev P ta)) (hl : POf X W lo (bound P tl)) (hh : POf X W hi (bound P th)) : PEf X W (.Subscript a (.Slice lo hi none p2) pos) (ev P (.slc ta tl th)) := by
  refine PE.imp (L2.pe_slice sl_all ha hl hh) ?_
  rintro σ H Q ⟨c, z, rfl, ok, h, p⟩
  simp only [ev] at h
  refine tM_bnd rr_backs ok h p fun x v1 c1 s1 ok1 rr1 h1 p1 => ?_
  refine tM_bnd rr_backs ok1 h1 p1 fun l v2 c2 s2 ok2 rr2 h2 p2 => ?_
  refine tM_bnd rr_backs ok2 h2 p2 fun u v3 c3 s3 ok3 rr3 h3 p3 => ?_
  cases rr2
  cases rr3
  obtain ⟨r, hr, rfl⟩ := liftO_some h3
  split at hr
  · rename_i d hd
    have t1 := view_ok ok3 ((rr1.mono s2).mono s3) hd
    unfold slcD at hr
    split at hr
    · cases hr
      obtain ⟨q, xs, rfl, hx, rl⟩ := top_lst t1
      exact .inl ⟨q, xs, rfl, SqL.of hx, fin_lst p3 ok3 (rl.cut _ _)⟩
    · rename_i ds
      cases hr
      obtain ⟨q, xs, rfl, g, hx, rl⟩ := top_tup ok3 t1
      refine .inr (.inl ⟨q, xs, rfl, SqT.of hx, fun w => ?_, fun _ => fin_tup p3 ok3 (rl.cut _ _)⟩)
      rw [rl.length] at w
      refine p3.read ok3 ?_
      rw [cut_whole w.1 w.2]
      simp only [R]
      exact ⟨q, xs, rfl, g, rl⟩
    · rename_i x
      split at hr
      · rename_i hl
        cases hr
        exact .inr (.inr ⟨x, top_str t1, le_line hl, p3.read ok3 (r_str _)⟩)
      · cases hr
    · cases hr
  · cases hr
end
end Iv
set_option linter.all false
set_option autoImplicit false
set_option maxRecDepth 100000
set_option maxHeartbeats 1000000
/-! Iv9: built-in functions. -/
namespace Iv
open PySem (Str Expr Stmt CmpOp Operator BoolOp PyData Addr Value Scope)
open L2 (V HO Hp upd upd_same upd_ne ne_of ne_of_none SqL SqT Rd Same WX TE TT TA TS PE PT PA PS PSs PC PW R2 OpR Cx CallR)

/-! ### sorted -/
section
open PySem PySem.W PyProof.Rows
theorem leP_eq {β : Type} (k : β → PyData) : dataLe false k = fun a b => leP (k a) (k b) := rfl
/-- a list of one item, or none, whatever it is -/
theorem sorts_one {prog : Program} {w : World} {A : Around} {s : Shared} {vs : List Value} {ds : List PyData} (e : EachIs (fun v d => ∃ as, Reads s.heap v d as) vs ds) (hal : AllAlike ds) (h1 : vs.length ≤ 1) (hn : ∀ d, d ∈ ds → d ≠ .none) (hu : ∀ d, d ∈ ds → A.units + d.depth < cLine) : SortsAt prog w A s (dataKind s.heap ds) vs := by
  have room : ∀ {d d' : PyData}, d ∈ ds → A.units + min d.depth d'.depth < cLine := fun {d d'} hd => Nat.lt_of_le_of_lt (Nat.add_le_add_left (Nat.min_le_left _ _) _) (hu d hd)
  refine ⟨fun v hv => ?_, general', ?_, fun h2 => absurd h2 (by omega)⟩
  · obtain ⟨d, hd, as, r⟩ := e.left v hv
    exact ⟨_, dataKind_some hal hd r⟩
  · intro E x y a b Q ha hb hq
    obtain ⟨d, as, hd, ra, rfl⟩ := dataKind_inv ha
    obtain ⟨d', as', hd', rb, rfl⟩ := dataKind_inv hb
    have hq' : Q (dataLt d d') s := hq
    show wpAny _ _ (oneLt' false x y) _ _ s
    rw [oneLt'_eq]
    simp only [Bool.false_eq_true, if_false]
    refine wpAny_bind (rcLt_alike d d' A s x y as as' ra rb (hal d hd d' hd') (hn d hd) (room hd) prog w E _ ?_)
    exact wpAny_truthy_bool hq'
theorem toPys_map : ∀ {ds : List D} {ps : List PyData}, toPys ds = some ps → ps = ds.map py
  | [], ps, h => by simp only [toPys] at h; cases h; rfl
  | d :: ds, ps, h => by
    simp only [toPys] at h
    cases hd : toPy d with
    | none => rw [hd] at h; cases h
    | some p =>
      cases hds : toPys ds with
      | none => rw [hd, hds] at h; cases h
      | some qs =>
        rw [hd, hds] at h
        cases h
        rw [List.map_cons, ← toPys_map hds]
        unfold py
        rw [hd]
        rfl
theorem toPys_mem : ∀ {ds : List D} {ps : List PyData}, toPys ds = some ps → ∀ d ∈ ds, toPy d = some (py d)
  | [], ps, h, d, hd => absurd hd (by simp)
  | e :: ds, ps, h, d, hm => by
    simp only [toPys] at h
    cases he : toPy e with
    | none => rw [he] at h; cases h
    | some p =>
      cases hds : toPys ds with
      | none => rw [he, hds] at h; cases h
      | some qs =>
        rcases List.mem_cons.mp hm with rfl | hm
        · unfold py; rw [he]; rfl
        · exact toPys_mem hds d hm
theorem alike_of {ps : List PyData} (h : sortable ps = true) : AllAlike ps ∧ (∀ d ∈ ps, d.depth ≤ 64) ∧ ((ps.length ≤ 1 ∧ ∀ d ∈ ps, d ≠ .none) ∨ Sortable ps) := by
  unfold sortable at h
  obtain ⟨h12, h3⟩ := Bool.and_eq_true_iff.mp h
  obtain ⟨h1, h2⟩ := Bool.and_eq_true_iff.mp h12
  refine ⟨fun d hd e he => List.all_eq_true.mp (List.all_eq_true.mp h1 d hd) e he, fun d hd => of_decide_eq_true (List.all_eq_true.mp h2 d hd), ?_⟩
  rcases Bool.or_eq_true_iff.mp h3 with h3 | h3
  · rcases Bool.or_eq_true_iff.mp h3 with h3 | h3
    · obtain ⟨a, b⟩ := Bool.and_eq_true_iff.mp h3
      exact .inl ⟨of_decide_eq_true a, fun d hd z => by have := List.all_eq_true.mp b d hd; rw [z] at this; cases this⟩
    · refine .inr (.inl fun d hd => ?_)
      have q := List.all_eq_true.mp h3 d hd
      cases d with
      | tuple xs => cases xs with
        | nil => cases q
        | cons x r => exact ⟨x, r, rfl⟩
      | _ => cases q
  · refine .inr (.inr fun d hd => ?_)
    have q := List.all_eq_true.mp h3 d hd
    cases d with
    | tuple xs => cases q
    | none => cases q
    | _ => exact ⟨(fun z => nomatch z), fun xs z => nomatch z⟩
/-- pairs of a value and its datum -/
def rSrt (K : PySem.W.Frag) : List V → Hp → L2.VK → Prop := fun vs H Q => ∃ (a : Addr) (zs : List (V × PyData)), vs = [V.ref a] ∧ H a = some (.lst (zs.map (·.1))) ∧ (∀ z ∈ zs, L2.Dp K H z.1 z.2) ∧ sortable (zs.map (·.2)) = true ∧
  ∀ p, H p = none → Q (.ref p) (upd H p (.lst ((zs.mergeSort fun x y => leP x.2 y.2).map (·.1))))
theorem each_vals {R : Value → V × PyData → Prop} : ∀ {its : List Value} {zs : List (V × PyData)}, L2.Vals (zs.map (·.1)) its → (∀ z ∈ zs, ∀ u, L2.RelV z.1 u → R u z) → EachIs R its zs
  | its, [], h, _ => by cases h; exact .nil
  | its, z :: zs, h, k => by
    cases h with
    | cons r t => exact .cons (k z (List.mem_cons_self ..) _ r) (each_vals t fun y hy => k y (List.mem_cons_of_mem _ hy))
theorem vals_each : ∀ {its : List Value} {zs : List (V × PyData)}, EachIs (fun u z => L2.RelV z.1 u) its zs → L2.Vals (zs.map (·.1)) its
  | _, _, .nil => .nil
  | _, _, .cons r t => .cons r (vals_each t)
theorem cr_srt {X : Cx} (hu : X.A.units + 70 < cLine) : CallR X (.builtin "sorted") (rSrt X.K) := by
  intro pins s σ H vs us Q I r h
  obtain ⟨a, zs, rfl, hs, hd, hsort, q⟩ := h
  obtain ⟨hal, hdep, hcase⟩ := alike_of hsort
  obtain ⟨its, rv, hl, hz⟩ := I.list (SqL.of hs)
  rw [L2.Vals.ref1 r]
  have e0 : EachIs (fun u z => L2.RelV z.1 u) its zs := each_vals rv fun z hz u hu => hu
  have er : EachIs (fun v b => ∃ as, Reads s.heap v b.2 as) its zs := each_vals rv fun z hz u hu => L2.Dp.reads I z.2 z.1 u (hd z hz) hu
  have hL : zs.length ≤ sizeLine := by have := hz; rw [List.length_map] at this; exact this
  have fin : ∀ out : List Value, out.length = zs.length → EachIs (fun u z => L2.RelV z.1 u) out (zs.mergeSort (dataLe false fun z => z.2)) → L2.EP X pins σ Q (.ref (s.heap.objs.size + 1)) { s with heap := sortedAll s.heap its (List.toArray out) } := by
    intro out ho eo
    obtain ⟨ep, he'⟩ := PyProof.Rows.sortedAll_at s.heap its out.toArray
    refine ⟨.ref _, upd H (s.heap.objs.size + 1) (.lst ((zs.mergeSort fun x y => leP x.2 y.2).map (·.1))), I.laid (t' := s.toks) (fun _ _ => PyProof.Rows.sortedAll_old) (Nat.le_succ _) ⟨?_, out, ep, vals_each eo, he'⟩, rfl, q _ (I.hok.fresh (Nat.le_succ _))⟩
    rw [List.length_map, List.length_mergeSort]
    exact hL
  have hu' : ∀ b, b ∈ zs → X.A.units + 2 + (b.2).depth < cLine := fun b hb => by have := hdep b.2 (List.mem_map_of_mem hb); omega
  rcases hcase with ⟨h1, hn⟩ | hk
  · have er' : EachIs (fun v b => ∃ as, Reads (sortingHeap (copyHeap s.heap its) (s.heap.objs.size + 1) its) v b.2 as) its zs := er.mono fun _ _ ⟨as, r⟩ => ⟨as, PyProof.Rows.Reads.keeps (fun _ _ => sorting_copy_old) r⟩
    have hlen : its.length ≤ 1 := by rw [← rv.length, List.length_map]; rw [List.length_map] at h1; exact h1
    refine sorted_vals hl.isList (sorts_one (s := { s with heap := sortingHeap (copyHeap s.heap its) (s.heap.objs.size + 1) its }) (ds := zs.map (·.2)) (each_map (R := fun v d => ∃ as, Reads (sortingHeap (copyHeap s.heap its) (s.heap.objs.size + 1) its) v d as) (fun z : V × PyData => z.2) er') hal hlen hn (bound_map hu')) (by rw [← rv.length]; exact hz) ?_
    exact fin _ (by rw [sortVals_length false rfl]; exact e0.length) (sortVals_data false e0 er' hal)
  · exact sorted_data hl.isList e0 er hal hk hL hu' fun out ho eo => fin out ho eo
end
end Iv
set_option linter.all false
set_option autoImplicit false
set_option maxRecDepth 100000
set_option maxHeartbeats 1000000
/-! Iv10: calls of built-in functions, isinstance. -/
namespace Iv
open PySem (Str Expr Stmt CmpOp Operator BoolOp PyData Addr Value Scope)
open L2 (V HO Hp upd upd_same upd_ne ne_of ne_of_none SqL SqT Rd Same WX TE TT TA TS PE PT PA PS PSs PC PW R2 OpR Cx CallR)

theorem CallR.or {X : Cx} {f : Value} {r r' : List V → Hp → L2.VK → Prop} (h : CallR X f r) (h' : CallR X f r') : CallR X f (fun xs H Q => r xs H Q ∨ r' xs H Q) := by
  intro pins s σ H xs us Q I r q
  rcases q with q | q
  · exact h pins s σ H xs us Q I r q
  · exact h' pins s σ H xs us Q I r q
def b1Name : B1 → Str
  | .len => "len" | .int => "int" | .abs => "abs" | .list => "list" | .tuple => "tuple" | .sorted => "sorted"
def rB1 (K : PySem.W.Frag) : B1 → List V → Hp → L2.VK → Prop
  | .len => fun xs H Q => ∃ x n, xs = [x] ∧ L2.LenV K x H n ∧ Q (.int n) H
  | .int => fun xs H Q => (∃ i, xs = [V.int i] ∧ Q (.int i) H) ∨ ∃ k, xs = [V.bl k] ∧ Q (.int (if k then 1 else 0)) H
  | .abs => fun xs H Q => ∃ i, xs = [V.int i] ∧ Q (.int (if i < 0 then -i else i)) H
  | .list => fun xs H Q => (∃ p ys, xs = [V.ref p] ∧ (SqL K H p ys ∨ SqT K H p ys) ∧ ∀ l, H l = none → Q (.ref l) (upd H l (.lst ys))) ∨
      ∃ d kvs, xs = [V.ref d] ∧ Rd H d (.dT kvs) ∧ ∀ p bs, H p = none → L2.IsKeys H kvs bs → Q (.ref p) (upd H p (.lst (bs.map V.ref)))
  | .tuple => fun xs H Q => ∃ p ys, xs = [V.ref p] ∧ ((SqL K H p ys ∧ ∀ l, H l = none → Q (.ref l) (upd H l (.tup ys))) ∨ (SqT K H p ys ∧ Q (.ref p) H))
  | .sorted => rSrt K
theorem pe_b1 {X : Cx} {e : Expr} {te : TE} {p pos : PySem.Pos} (f : B1) (hc : X.calm = true) (hu : X.A.units + 70 < PySem.cLine) (hg : L2.Gl X (b1Name f)) (hm : X.mg (b1Name f) = none) (he : PE X e te) (hs : noStar e = true) :
    PE X (.Call (.Name (b1Name f) p) [e] [] pos) (L2.tCB (rB1 X.K f) (L2.tCons te L2.tNil)) := by
  have ha : PA X [e] (L2.tCons te L2.tNil) := L2.pa_cons he L2.pa_nil (star_ok hs)
  cases f with
  | len => exact L2.pe_callB L2.call_len hg hm PySem.boot_len ha (by decide) (by decide) (star_ok hs) rfl
  | int => exact L2.pe_callTy L2.call_int1 hg hm (by decide +kernel) ha (by decide) (by decide) (star_ok hs) rfl
  | abs => exact L2.pe_callB L2.call_abs hg hm (by decide +kernel) ha (by decide) (by decide) (star_ok hs) rfl
  | list => exact L2.pe_callTy (CallR.or L2.call_list_of (L2.call_list_dT hc)) hg hm (by decide +kernel) ha (by decide) (by decide) (star_ok hs) rfl
  | tuple => exact L2.pe_callTy L2.call_tuple_of hg hm (by decide +kernel) ha (by decide) (by decide) (star_ok hs) rfl
  | sorted => exact L2.pe_callB (cr_srt hu) hg hm (by decide +kernel) ha (by decide) (by decide) (star_ok hs) rfl

section
variable {X : Cx} {T : Tx} {W : WX} {σ : L2.St} {c c0 : Cfg} {d e : D} {v v1 v2 : V} {res : Res} {Q : V → Hp → Prop}
theorem len_of (ok : Ok T σ c) (h : Top T c d v) {n : Nat} (hn : lenD d = some n) (hl : n ≤ line) : L2.LenV T.K v c.H n := by
  cases d with
  | str x => cases hn; rw [top_str h]; exact ⟨le_line hl, rfl⟩
  | lst ds => cases hn; obtain ⟨a, xs, rfl, hx, r⟩ := top_lst h; exact .inl ⟨xs, SqL.of hx, r.length.symm⟩
  | tup ds => cases hn; obtain ⟨a, xs, rfl, _, hx, r⟩ := top_tup ok h; exact .inr ⟨xs, SqT.of hx, r.length.symm⟩
  | scr ns =>
    cases hn
    have h' : R T c.S (.scr ns) v := h
    simp only [R] at h'
    obtain ⟨a, rfl, s⟩ := h'
    exact .inl ⟨_, sql_mono ok.sub s, by rw [List.length_map]⟩
  | _ => cases hn
theorem RL.zip {S : Gh} : ∀ {ds : List D} {xs : List V}, RL T S ds xs → ∃ zs : List (V × D), zs.map (·.1) = xs ∧ zs.map (·.2) = ds ∧ ∀ z ∈ zs, R T S z.2 z.1
  | [], xs, h => by simp only [RL] at h; subst h; exact ⟨[], rfl, rfl, fun _ h => absurd h (by simp)⟩
  | d :: ds, xs, h => by
    simp only [RL] at h
    obtain ⟨v, r, rfl, h1, h2⟩ := h
    obtain ⟨zs, a, b, k⟩ := RL.zip h2
    refine ⟨(v, d) :: zs, by rw [List.map_cons, a], by rw [List.map_cons, b], fun z hz => ?_⟩
    rcases List.mem_cons.mp hz with rfl | hz
    · exact h1
    · exact k z hz
theorem RL.of_zip {S : Gh} : ∀ {zs : List (V × D)}, (∀ z ∈ zs, R T S z.2 z.1) → RL T S (zs.map (·.2)) (zs.map (·.1))
  | [], h => by simp [RL]
  | z :: zs, h => by
    simp only [List.map_cons, RL]
    exact ⟨z.1, _, rfl, h z (List.mem_cons_self ..), RL.of_zip fun y hy => h y (List.mem_cons_of_mem _ hy)⟩
theorem sort_ok (ok : Ok T σ c) {ds r : List D} (h : Top T c (.lst ds) v) (hs : sortD ds = some r) (p : Post T W σ (RR T) c (.ok (.fresh (.lst r)), c.g) Q) : rSrt T.K [v] c.H Q := by
  unfold sortD at hs
  split at hs
  · rename_i ps hps
    split at hs
    · rename_i hc
      cases hs
      obtain ⟨h1, h2⟩ := Bool.and_eq_true_iff.mp hc
      obtain ⟨a, xs, rfl, hx, rl⟩ := top_lst h
      obtain ⟨zs, e1, e2, hz⟩ := rl.zip
      have hps' := toPys_map hps
      refine ⟨a, zs.map (fun z => (z.1, py z.2)), rfl, ?_, ?_, ?_, ?_⟩
      · rw [List.map_map]
        show c.H a = some (.lst (zs.map (fun z => z.1)))
        rw [e1]; exact hx
      · intro y hy
        obtain ⟨z, hzm, rfl⟩ := List.mem_map.mp hy
        exact R.dp ok.sub z.2 (hz z hzm) (toPys_mem hps z.2 (by rw [← e2]; exact List.mem_map_of_mem hzm))
      · rw [List.map_map]
        show sortable (zs.map (fun z => py z.2)) = true
        have : zs.map (fun z => py z.2) = ps := by rw [hps', ← e2, List.map_map]; rfl
        rw [this]
        exact h1
      · have key : ((zs.map (fun z => (z.1, py z.2))).mergeSort fun x y => leP x.2 y.2) = (zs.mergeSort fun x y => leD x.2 y.2).map (fun z => (z.1, py z.2)) := by
          rw [List.map_mergeSort]
          intro a _ b _
          rfl
        have key2 : (zs.mergeSort fun x y => leD x.2 y.2).map (·.2) = ds.mergeSort leD := by
          rw [← e2, List.map_mergeSort]
          intro a _ b _
          rfl
        rw [key, List.map_map]
        show ∀ q, c.H q = none → Q (.ref q) (upd c.H q (.lst ((zs.mergeSort fun x y => leD x.2 y.2).map (fun z => z.1))))
        refine fin_lst p ok ?_
        rw [← key2]
        refine RL.of_zip fun z hm => hz z ?_
        exact (List.mergeSort_perm zs _).mem_iff.mp hm
    · cases hs
  · cases hs
theorem keysR {S : Gh} {G : Hp} : ∀ {kvs : List (List Key × D)} {xs : List (List Key × V)} {bs : List Addr}, KR T S kvs xs → L2.IsKeys G xs bs → ∀ b ∈ bs, ∃ ks, G b = some (.tup ks)
  | [], xs, bs, h, k => by simp only [KR] at h; subst h; cases k; exact fun b hb => absurd hb (by simp)
  | (q, d) :: r, xs, bs, h, k => by
    obtain ⟨v, t, rfl, h1, h2⟩ := h
    cases k with
    | cons a b =>
      intro x hx
      rcases List.mem_cons.mp hx with rfl | hx
      · exact ⟨_, a⟩
      · exact keysR h2 b x hx
/-- tuples may be known for ever at any time -/
theorem know (s : Step true c0 c) (ok : Ok T σ c) : ∀ bs : List Addr, (∀ b ∈ bs, ∃ xs, c.H b = some (.tup xs)) → ∃ c', c'.g = c.g ∧ c'.H = c.H ∧ Step true c0 c' ∧ Ok T σ c' ∧ Ge c.S c'.S ∧ ∀ b ∈ bs, ∀ xs, c.H b = some (.tup xs) → c'.S.G b = some (.tup xs)
  | [], _ => ⟨c, rfl, rfl, s, ok, ⟨fun _ _ h => h, Nat.le_refl _, fun _ _ => rfl⟩, fun b hb => absurd hb (by simp)⟩
  | b :: bs, h => by
    obtain ⟨c1, hg, hH, s1, ok1, ge1, k1⟩ := know s ok bs fun x hx => h x (List.mem_cons_of_mem _ hx)
    obtain ⟨xs, hx⟩ := h b (List.mem_cons_self ..)
    have hx1 : c1.H b = some (.tup xs) := by rw [hH]; exact hx
    have nl : ∀ q, Live c1.g q → c1.S.adr q ≠ b := by
      intro q lq z
      cases q with
      | slot i => obtain ⟨k, hk⟩ := lq; obtain ⟨_, _, cr⟩ := ok1.own i k hk; exact cr.notup (z ▸ hx1) xs rfl
      | fld n f => obtain ⟨k, hk⟩ := lq; obtain ⟨_, cr⟩ := ok1.fld n f k hk; exact cr.notup (z ▸ hx1) xs rfl
      | ins n =>
        obtain ⟨_, Ca, dx, fs, _, hh, _⟩ := ok1.ins n c1.g.cs[n] (List.getElem?_eq_getElem (show n < c1.g.cs.length from lq))
        rw [z, hx1] at hh; cases hh
    cases hb : c1.S.G b with
    | some o =>
      have ho := ok1.sub b o hb
      rw [hx1] at ho
      cases ho
      refine ⟨c1, hg, hH, s1, ok1, ge1, fun x hx' ys hy => ?_⟩
      rcases List.mem_cons.mp hx' with rfl | hx'
      · rw [hx] at hy; cases hy; exact hb
      · exact k1 x hx' ys hy
    | none =>
      refine ⟨c1.froze b (.tup xs), hg, hH, ?_, ok1.froze hb hx1 nl, ⟨fun a o q => upd_sub hb a o (ge1.G a o q), ge1.nc, ge1.ia⟩, fun x hx' ys hy => ?_⟩
      · refine ⟨fun a u q => upd_sub hb a u (s1.G a u q), s1.nc, s1.ia, s1.trk, fun a u q hp => ?_, s1.live, s1.fkeep, s1.slots, s1.ref, s1.lck, s1.rlen⟩
        obtain ⟨q1, q2⟩ := s1.fr a u q hp
        refine ⟨q1, fun nt => ?_⟩
        have ne : a ≠ b := fun z => by subst z; rw [hx1] at q1; cases q1; exact nt xs rfl
        exact (upd_ne ne).trans (q2 nt)
      · show upd c1.S.G b (.tup xs) x = some (.tup ys)
        by_cases e : x = b
        · subst e; rw [hx] at hy; cases hy; exact upd_same
        · rw [upd_ne e]
          exact k1 x (by rcases List.mem_cons.mp hx' with z | z; exact absurd z e; exact z) ys hy
theorem keys_rl {S S' : Gh} {H : Hp} : ∀ {kvs : List (List Key × D)} {xs : List (List Key × V)} {bs : List Addr}, KR T S kvs xs → L2.IsKeys H xs bs → (∀ b ∈ bs, ∀ ks, H b = some (.tup ks) → S'.G b = some (.tup ks)) → RL T S' (kvs.map fun p => .tup (p.1.map kD)) (bs.map V.ref)
  | [], xs, bs, h, k, _ => by simp only [KR] at h; subst h; cases k; simp [RL]
  | (q, d) :: r, xs, bs, h, k, hG => by
    obtain ⟨v, t, rfl, h1, h2⟩ := h
    cases k with
    | cons a b =>
      simp only [List.map_cons, RL]
      refine ⟨_, _, rfl, ?_, keys_rl h2 b fun x hx => hG x (List.mem_cons_of_mem _ hx)⟩
      simp only [R]
      refine ⟨_, _, rfl, hG _ (List.mem_cons_self ..) _ a, ?_⟩
      clear a
      induction q with
      | nil => simp [RL]
      | cons y ys ih =>
        simp only [List.map_cons, RL]
        refine ⟨_, _, rfl, ?_, ?_⟩
        · cases y <;> simp [kD, L2.kV, R]
        · exact ih
theorem r_b1 {P : Pg} {e : Expr} {te : Iv.T} {p pos : PySem.Pos} (f : B1) (hc : X.calm = true) (hu : X.A.units + 70 < PySem.cLine) (hg : L2.Gl X (b1Name f)) (hm : X.mg (b1Name f) = none) (hs : noStar e = true) (he : PEf X W e (ev P te)) :
    PEf X W (.Call (.Name (b1Name f) p) [e] [] pos) (ev P (.b1 f te)) := by
  refine PE.imp (pe_b1 f hc hu hg hm he hs) ?_
  rintro σ H Q ⟨c, z, rfl, ok, h, p⟩
  simp only [ev] at h
  refine tM_bnd rr_backs ok h p fun x v1 c1 s1 ok1 rr1 h1 p1 => ?_
  obtain ⟨r, hr, rfl⟩ := liftO_some h1
  show rB1 X.K f [v1] c1.H Q
  split at hr
  · rename_i kvs hk
    cases hr
    obtain ⟨a, rfl, xs, hx, kr⟩ := cview_ok ok1 rr1 hk
    refine .inr ⟨a, xs, rfl, .inl hx, fun q bs hq hb => ?_⟩
    obtain ⟨c2, hg2, hH2, s2, ok2, ge2, k2⟩ := know (c0 := c1) Step.refl ok1 bs (keysR kr hb)
    have hq2 : c2.H q = none := by rw [hH2]; exact hq
    have := p1.1 _ rfl (.ref q) (c2.put q (.lst (bs.map V.ref))) hg2 (s2.trans (Step.put hq2)) (ok2.put hq2) ⟨q, rfl, ok2.free hq2, ⟨_, upd_same, keys_rl kr hb k2⟩, ok2.nlive hq2, .inl hq⟩
    rw [← hH2]
    exact this
  · split at hr
    · rename_i d hd
      have t1 := view_ok ok1 rr1 hd
      unfold b1D at hr
      split at hr
      · obtain ⟨n, hn, hr'⟩ := Option.bind_eq_some_iff.mp hr
        split at hr'
        · rename_i hl
          cases hr'
          exact ⟨v1, n, rfl, len_of ok1 t1 hn hl, p1.read ok1 (r_int _)⟩
        · cases hr'
      · cases hr
        exact .inl ⟨_, by rw [top_int t1], p1.read ok1 (r_int _)⟩
      · rename_i b _
        cases hr
        exact .inr ⟨b, by rw [top_bl t1], p1.read ok1 (by cases b <;> simp [R])⟩
      · cases hr
        exact ⟨_, by rw [top_int t1], p1.read ok1 (r_int _)⟩
      · cases hr
        obtain ⟨a, xs, rfl, hx, rl⟩ := top_lst t1
        exact .inl ⟨a, xs, rfl, .inl (SqL.of hx), fin_lst p1 ok1 rl⟩
      · cases hr
        obtain ⟨a, xs, rfl, _, hx, rl⟩ := top_tup ok1 t1
        exact .inl ⟨a, xs, rfl, .inr (SqT.of hx), fin_lst p1 ok1 rl⟩
      · cases hr
        obtain ⟨a, xs, rfl, hx, rl⟩ := top_lst t1
        exact ⟨a, xs, rfl, .inl ⟨SqL.of hx, fin_tup p1 ok1 rl⟩⟩
      · cases hr
        obtain ⟨a, xs, rfl, _, hx, rl⟩ := top_tup ok1 t1
        exact ⟨a, xs, rfl, .inr ⟨SqT.of hx, p1.read ok1 t1⟩⟩
      · obtain ⟨r', hr', rfl⟩ := Option.map_eq_some_iff.mp hr
        exact sort_ok ok1 t1 hr' p1
      · cases hr
    · cases hr
end
end Iv
set_option linter.all false
set_option autoImplicit false
set_option maxRecDepth 100000
set_option maxHeartbeats 1000000
/-! Iv11: what a def promises; a call. -/
namespace Iv
open PySem (Str Expr Stmt CmpOp Operator BoolOp PyData Addr Value Scope)
open L2 (V HO Hp upd upd_same upd_ne ne_of ne_of_none SqL SqT Rd Same WX TE TT TA TS PE PT PA PS PSs PC PW R2 OpR Cx CallR XK)

abbrev Sem0 := List Arg → List Inst → Option (Out Res × List C × List Inst)
def notBrw : Res → Bool
  | .brw _ => false
  | _ => true
/-- what a def with the slots N and the semantics f promises -/
def spF (X : Tx) (N : List Str) (np : Nat) (f : Sem0) : L2.Sp := fun vs H Q E => ∃ as c r, as.length = np ∧ vs.length = np ∧ c.H = H ∧ c.g.rho = initRho N.length as ∧ Ok X (L2.start N vs) c ∧ f as c.g.cs = some r ∧
  (∀ a, r.1 = .ok a → notBrw a = true ∧ ∀ v σ' c', Step false c c' → Ok X σ' c' → outsOf c'.g 0 as = some r.2.1 → c'.g.cs = r.2.2 → RR X c c' a v → Q v c'.H) ∧
  (∀ x, r.1 = .exc x → ∀ cls dx σ' c', Step false c c' → Ok X σ' c' → outsOf c'.g 0 as = some r.2.1 → c'.g.cs = r.2.2 → RX X c' x cls dx → E cls dx c'.H)

/-- an argument as it is handed over -/
def RA (X : Tx) (c0 c : Cfg) : Ar → V → Prop
  | .v d, v => R X c.S d v
  | .r i, v => RR X c0 c (.brw (.slot i)) v
  | .l i, v => RR X c0 c (.brw (.slot i)) v
def RAs (X : Tx) (c0 c : Cfg) : List Ar → List V → Prop
  | [], vs => vs = []
  | a :: as, vs => ∃ v q, vs = v :: q ∧ RA X c0 c a v ∧ RAs X c0 c as q

section
variable {X : Tx} {σ σ' : L2.St} {c c0 c1 cc : Cfg}
theorem RA.mono (s : Step true c c1) : ∀ {a : Ar} {v : V}, RA X c0 c a v → RA X c0 c1 a v
  | .v d, v, h => R.mono s.ge d h
  | .r i, v, h => RR.mono (X := X) (c0 := c0) s (r := .brw (.slot i)) h
  | .l i, v, h => RR.mono (X := X) (c0 := c0) s (r := .brw (.slot i)) h
theorem RAs.mono (s : Step true c c1) : ∀ {as : List Ar} {vs : List V}, RAs X c0 c as vs → RAs X c0 c1 as vs
  | [], vs, h => h
  | a :: as, vs, ⟨v, q, e, h1, h2⟩ => ⟨v, q, e, h1.mono s, RAs.mono s h2⟩
theorem RAs.length : ∀ {as : List Ar} {vs : List V}, RAs X c0 c as vs → vs.length = as.length
  | [], vs, h => by rw [show vs = [] from h] <;> rfl
  | a :: as, vs, ⟨v, q, e, h1, h2⟩ => by rw [e, List.length_cons, List.length_cons, RAs.length h2]
theorem ras_backs : Backs (RAs X) := ⟨fun {c0 c1 c2 a v} s h => by
  induction a generalizing v with
  | nil => exact h
  | cons x xs ih =>
    obtain ⟨w, q, e, h1, h2⟩ := h
    refine ⟨w, q, e, ?_, ih h2⟩
    cases x <;> exact h1⟩
theorem argsOf_length {g : Sg} : ∀ {as : List Ar} {xs : List Arg}, argsOf g as = some xs → xs.length = as.length
  | [], xs, h => by cases h; rfl
  | a :: as, xs, h => by
    unfold argsOf at h
    split at h
    · rename_i y ys h1 h2; cases h; rw [List.length_cons, List.length_cons, argsOf_length h2]
    · cases h
theorem argsOf_get {g : Sg} : ∀ {as : List Ar} {xs : List Arg} {j : Nat} {a : Ar}, argsOf g as = some xs → as[j]? = some a → ∃ x, xs[j]? = some x ∧ a.arg g = some x
  | [], xs, j, a, h, e => by simp at e
  | b :: as, xs, j, a, h, e => by
    unfold argsOf at h
    split at h
    · rename_i y ys h1 h2
      cases h
      cases j with
      | zero => simp only [List.getElem?_cons_zero, Option.some.injEq] at e; subst e; exact ⟨y, rfl, h1⟩
      | succ j => obtain ⟨x, hx, hy⟩ := argsOf_get (j := j) h2 (by simpa using e); exact ⟨x, by simpa using hx, hy⟩
    · cases h
theorem RAs.get : ∀ {as : List Ar} {vs : List V} {j : Nat} {a : Ar}, RAs X c0 c as vs → as[j]? = some a → ∃ v, vs[j]? = some v ∧ RA X c0 c a v
  | [], vs, j, a, h, e => by simp at e
  | b :: as, vs, j, a, ⟨v, q, ev, h1, h2⟩, e => by
    subst ev
    cases j with
    | zero => simp only [List.getElem?_cons_zero, Option.some.injEq] at e; subst e; exact ⟨v, rfl, h1⟩
    | succ j => obtain ⟨w, hw, hr⟩ := RAs.get (j := j) h2 (by simpa using e); exact ⟨w, by simpa using hw, hr⟩
/-- the slot of a lent argument's parameter -/
theorem initRho_get {n : Nat} {xs : List Arg} {j : Nat} {s : Sl} (h : (initRho n xs)[j]? = some s) : (∃ d, xs[j]? = some (.v d) ∧ s = .val d) ∨ (∃ k, xs[j]? = some (.r k) ∧ s = .ref k) ∨ s = .un := by
  unfold initRho at h
  by_cases hj : j < xs.length
  · rw [List.getElem?_append_left (by simpa using hj), List.getElem?_map, List.getElem?_eq_getElem hj] at h
    cases hx : xs[j] with
    | v d => rw [hx] at h; cases h; exact .inl ⟨d, by rw [List.getElem?_eq_getElem hj, hx], rfl⟩
    | r k => rw [hx] at h; cases h; exact .inr (.inl ⟨k, by rw [List.getElem?_eq_getElem hj, hx], rfl⟩)
  · rw [List.getElem?_append_right (by simpa using hj)] at h
    exact .inr (.inr (List.eq_of_mem_replicate (List.mem_of_getElem? h)))
def argSl : Arg → Sl
  | .v d => .val d
  | .r k => .ref k
theorem initRho_at {n : Nat} {xs : List Arg} {j : Nat} {x : Arg} (h : xs[j]? = some x) : (initRho n xs)[j]? = some (argSl x) := by
  unfold initRho
  obtain ⟨hj, e⟩ := List.getElem?_eq_some_iff.mp h
  rw [List.getElem?_append_left (by simpa using hj), List.getElem?_map, h]
  cases x <;> rfl
theorem start_at {N : List Str} {vs : List V} {j : Nat} {v : V} (h : vs[j]? = some v) : (L2.start N vs)[j]? = some (some v) := by
  unfold L2.start
  obtain ⟨hj, e⟩ := List.getElem?_eq_some_iff.mp h
  rw [List.getElem?_append_left (by simpa using hj), List.getElem?_map, h]
  rfl
theorem start_length {N : List Str} {vs : List V} (h : vs.length ≤ N.length) : (L2.start N vs).length = N.length := by
  unfold L2.start
  rw [List.length_append, List.length_map, List.length_replicate]
  omega
theorem initRho_length {n : Nat} {xs : List Arg} (h : xs.length ≤ n) : (initRho n xs).length = n := by
  unfold initRho
  rw [List.length_append, List.length_map, List.length_replicate]
  omega
/-- the caller's slot that is lent to the j-th parameter -/
def lentTo (as : List Ar) (j : Nat) : Option Nat := match as[j]? with
  | some (.r i) => some i
  | _ => none
/-- the callee's ghost -/
def calleeS (cc : Cfg) (as : List Ar) : Gh where
  G := cc.S.G
  nc := cc.S.nc
  adr := fun p => match p with
    | .slot j => cc.S.adr (.slot ((lentTo as j).getD 0))
    | .fld n f => cc.S.adr (.fld n f)
    | .ins n => cc.S.adr (.ins n)
theorem ge_callee {as : List Ar} : Ge cc.S (calleeS cc as) := ⟨fun _ _ h => h, Nat.le_refl _, fun _ _ => rfl⟩
theorem R.ext {S S' : Gh} (g : S'.G = S.G) (n : S'.nc = S.nc) (a : ∀ n, S'.adr (.ins n) = S.adr (.ins n)) {d : D} {v : V} (h : R X S d v) : R X S' d v :=
  R.mono ⟨fun _ _ h => by rw [g]; exact h, by rw [n]; exact Nat.le_refl _, fun n _ => a n⟩ d h
theorem refs_mem {as : List Ar} {i : Nat} : i ∈ refsOf as ↔ ∃ j, lentTo as j = some i := by
  constructor
  · intro h
    induction as with
    | nil => simp [refsOf] at h
    | cons a as ih =>
      cases a with
      | v d => obtain ⟨j, hj⟩ := ih h; exact ⟨j + 1, by simpa [lentTo] using hj⟩
      | l d => obtain ⟨j, hj⟩ := ih h; exact ⟨j + 1, by simpa [lentTo] using hj⟩
      | r k =>
        rcases List.mem_cons.mp h with rfl | h
        · exact ⟨0, rfl⟩
        · obtain ⟨j, hj⟩ := ih h; exact ⟨j + 1, by simpa [lentTo] using hj⟩
  · rintro ⟨j, h⟩
    induction as generalizing j with
    | nil => simp [lentTo] at h
    | cons a as ih =>
      cases j with
      | zero =>
        cases a with
        | v d => simp [lentTo] at h
        | l d => simp [lentTo] at h
        | r k => simp [lentTo] at h; subst h; exact List.mem_cons_self ..
      | succ j =>
        have q := ih j (by simpa [lentTo] using h)
        cases a <;> simp [refsOf, q]
theorem refs_inj {as : List Ar} (hn : (refsOf as).Nodup) {i j j' : Nat} (h : lentTo as j = some i) (h' : lentTo as j' = some i) : j = j' := by
  induction as generalizing j j' with
  | nil => simp [lentTo] at h
  | cons a as ih =>
    cases a with
    | v d =>
      cases j with
      | zero => simp [lentTo] at h
      | succ j => cases j' with
        | zero => simp [lentTo] at h'
        | succ j' => exact congrArg (· + 1) (ih hn (j := j) (j' := j') (by simpa [lentTo] using h) (by simpa [lentTo] using h'))
    | l d =>
      cases j with
      | zero => simp [lentTo] at h
      | succ j => cases j' with
        | zero => simp [lentTo] at h'
        | succ j' => exact congrArg (· + 1) (ih hn (j := j) (j' := j') (by simpa [lentTo] using h) (by simpa [lentTo] using h'))
    | r k =>
      obtain ⟨hk, hn'⟩ := List.nodup_cons.mp (show (k :: refsOf as).Nodup from hn)
      cases j with
      | zero =>
        cases j' with
        | zero => rfl
        | succ j' =>
          have e : k = i := by simpa [lentTo] using h
          exact absurd (refs_mem.mpr ⟨j', by simpa [lentTo] using h'⟩) (e ▸ hk)
      | succ j =>
        cases j' with
        | zero =>
          have e : k = i := by simpa [lentTo] using h'
          exact absurd (refs_mem.mpr ⟨j, by simpa [lentTo] using h⟩) (e ▸ hk)
        | succ j' => exact congrArg (· + 1) (ih hn' (j := j) (j' := j') (by simpa [lentTo] using h) (by simpa [lentTo] using h'))
/-- what is lent is a container of the caller's -/
theorem lent_cont {as : List Ar} {xs : List Arg} {g : Sg} (h : argsOf g as = some xs) {j i : Nat} (hj : lentTo as j = some i) : ∃ k, xs[j]? = some (.r k) ∧ (g.rho[i]? = some (.own k) ∨ g.rho[i]? = some (.ref k)) := by
  unfold lentTo at hj
  split at hj
  · rename_i i' e
    cases hj
    obtain ⟨x, hx, hy⟩ := argsOf_get h e
    unfold Ar.arg at hy
    simp only at hy
    split at hy
    · rename_i k hk; cases hy; exact ⟨k, hx, .inl hk⟩
    · rename_i k hk; cases hy; exact ⟨k, hx, .inr hk⟩
    · cases hy
  · cases hj
theorem cont_slot {g : Sg} {i : Nat} {k : C} (h : g.rho[i]? = some (.own k) ∨ g.rho[i]? = some (.ref k)) : cont g (.slot i) = some k := by
  show (g.rho[i]?).bind Sl.cont = some k
  rcases h with h | h <;> rw [h] <;> rfl
theorem ref_slot {g : Sg} {xs : List Arg} {n j : Nat} {k : C} (hg : g.rho = initRho n xs) (h : cont g (.slot j) = some k) : xs[j]? = some (.r k) := by
  have h' : (g.rho[j]?).bind Sl.cont = some k := h
  rw [hg] at h'
  obtain ⟨s, hs, hk⟩ := Option.bind_eq_some_iff.mp h'
  rcases initRho_get hs with ⟨d, _, rfl⟩ | ⟨k', hx, rfl⟩ | rfl
  · cases hk
  · cases hk; exact hx
  · cases hk
theorem lent_of {as : List Ar} {xs : List Arg} {g : Sg} (h : argsOf g as = some xs) {j : Nat} {k : C} (hj : xs[j]? = some (.r k)) : ∃ i, lentTo as j = some i := by
  have hlt : j < as.length := by rw [← argsOf_length h]; exact (List.getElem?_eq_some_iff.mp hj).1
  obtain ⟨x, hx, hy⟩ := argsOf_get h (List.getElem?_eq_getElem hlt)
  rw [hj] at hx
  cases hx
  cases ha : as[j] with
  | r i => exact ⟨i, by unfold lentTo; rw [List.getElem?_eq_getElem hlt, ha]⟩
  | v d => rw [ha] at hy; unfold Ar.arg at hy; cases hy
  | l i =>
    rw [ha] at hy
    unfold Ar.arg at hy
    simp only at hy
    split at hy
    · split at hy <;> cases hy
    · cases hy
/-- the callee's start -/
theorem callee_ok {N : List Str} {as : List Ar} {xs : List Arg} {vs : List V} (ok : Ok X σ cc) (h : RAs X c0 cc as vs) (hx : argsOf cc.g as = some xs) (hl : hasLent as = false) (hn : (refsOf as).Nodup) (hN : as.length ≤ N.length) :
    Ok X (L2.start N vs) ⟨⟨initRho N.length xs, cc.g.cs⟩, calleeS cc as, cc.H⟩ := by
  have hxl := argsOf_length hx
  have liveS : ∀ {j k}, cont (⟨initRho N.length xs, cc.g.cs⟩ : Sg) (.slot j) = some k → ∃ i, lentTo as j = some i ∧ cont cc.g (.slot i) = some k ∧ (calleeS cc as).adr (.slot j) = cc.S.adr (.slot i) := by
    intro j k hc
    have hj := ref_slot (g := ⟨initRho N.length xs, cc.g.cs⟩) rfl hc
    obtain ⟨i, hi⟩ := lent_of hx hj
    obtain ⟨k', hk', hs⟩ := lent_cont hx hi
    rw [hj] at hk'
    cases hk'
    refine ⟨i, hi, cont_slot hs, ?_⟩
    show cc.S.adr (.slot ((lentTo as j).getD 0)) = _
    rw [hi]; rfl
  have fldE : ∀ {n f}, cont (⟨initRho N.length xs, cc.g.cs⟩ : Sg) (.fld n f) = cont cc.g (.fld n f) := rfl
  refine ⟨ok.sub, ?_, ok.nc, ?_, ?_, ?_, ?_, ?_⟩
  · rw [start_length (by rw [h.length]; exact hN)]
    exact (initRho_length (by rw [hxl]; exact hN)).symm
  · intro i d hd
    rcases initRho_get (show (initRho N.length xs)[i]? = some (.val d) from hd) with ⟨d', hx', e⟩ | ⟨k, _, e⟩ | e
    · cases e
      have hlt : i < as.length := by rw [← hxl]; exact (List.getElem?_eq_some_iff.mp hx').1
      obtain ⟨x, hxi, hy⟩ := argsOf_get hx (List.getElem?_eq_getElem hlt)
      rw [hx'] at hxi
      cases hxi
      obtain ⟨v, hv, ra⟩ := h.get (List.getElem?_eq_getElem hlt)
      refine ⟨v, start_at hv, ?_⟩
      cases ha : as[i] with
      | v e => rw [ha] at hy ra; cases hy; exact R.mono (ge_callee (cc := cc) (as := as)) d (show R X cc.S d v from ra)
      | r q =>
        rw [ha] at hy
        unfold Ar.arg at hy
        simp only at hy
        split at hy <;> cases hy
      | l q =>
        exfalso
        have : ∀ (l : List Ar), Ar.l q ∈ l → hasLent l = true := by
          intro l
          induction l with
          | nil => intro m; exact absurd m (by simp)
          | cons b bs ih =>
            intro m
            cases b with
            | l _ => rfl
            | v _ => rcases List.mem_cons.mp m with z | z; cases z; exact ih z
            | r _ => rcases List.mem_cons.mp m with z | z; cases z; exact ih z
        have := this as (by rw [← ha]; exact List.getElem_mem _)
        rw [this] at hl
        cases hl
    · cases e
    · cases e
  · intro j k hc
    obtain ⟨i, hi, hci, ha⟩ := liveS hc
    obtain ⟨_, g, cr⟩ := ok.own i k hci
    have hlt : j < as.length := by
      unfold lentTo at hi
      split at hi
      · rename_i e; exact (List.getElem?_eq_some_iff.mp e).1
      · cases hi
    obtain ⟨v, hv, ra⟩ := h.get (List.getElem?_eq_getElem hlt)
    have eq : as[j] = .r i := by
      unfold lentTo at hi
      rw [List.getElem?_eq_getElem hlt] at hi
      cases ha : as[j] with
      | r q => rw [ha] at hi; cases hi; rfl
      | v q => rw [ha] at hi; cases hi
      | l q => rw [ha] at hi; cases hi
    rw [eq] at ra
    have hv' : v = .ref (cc.S.adr (.slot i)) := ra.1 ⟨k, hci⟩
    refine ⟨?_, ?_, ?_⟩
    · show (L2.start N vs)[j]? = some (some (.ref ((calleeS cc as).adr (.slot j))))
      rw [ha, start_at hv, hv']
    · show cc.S.G ((calleeS cc as).adr (.slot j)) = none
      rw [ha]; exact g
    · show CR X (calleeS cc as) cc.H ((calleeS cc as).adr (.slot j)) k
      rw [ha]
      exact CR.mono (ge_callee (cc := cc) (as := as)) (fun _ h => h) cr
  · intro n f k hc
    obtain ⟨g, cr⟩ := ok.fld n f k hc
    exact ⟨g, CR.mono (ge_callee (cc := cc) (as := as)) (fun _ h => h) cr⟩
  · intro n I hI
    obtain ⟨g, Ca, dx, fs, hm, hh, fr⟩ := ok.ins n I hI
    exact ⟨g, Ca, dx, fs, hm, hh, FR.mono (ge_callee (cc := cc) (as := as)) (fun _ => rfl) fr⟩
  · have tr : ∀ p, Live (⟨initRho N.length xs, cc.g.cs⟩ : Sg) p → ∃ q, Live cc.g q ∧ (calleeS cc as).adr p = cc.S.adr q ∧ (∀ p', Live (⟨initRho N.length xs, cc.g.cs⟩ : Sg) p' → (∀ q', Live cc.g q' → (calleeS cc as).adr p' = cc.S.adr q' → q' = q → p = p')) := by
      intro p lp
      cases p with
      | slot j =>
        obtain ⟨k, hc⟩ := lp
        obtain ⟨i, hi, hci, ha⟩ := liveS hc
        refine ⟨.slot i, ⟨k, hci⟩, ha, fun p' lp' q' lq' e eq => ?_⟩
        subst eq
        cases p' with
        | slot j' =>
          obtain ⟨k', hc'⟩ := lp'
          obtain ⟨i', hi', hci', ha'⟩ := liveS hc'
          have := ok.inj (.slot i') (.slot i) ⟨k', hci'⟩ ⟨k, hci⟩ (ha'.symm.trans e)
          cases this
          rw [refs_inj hn hi hi']
        | fld n f => have := ok.inj (.fld n f) (.slot i) lp' ⟨k, hci⟩ e; cases this
        | ins n => have := ok.inj (.ins n) (.slot i) lp' ⟨k, hci⟩ e; cases this
      | fld n f =>
        refine ⟨.fld n f, lp, rfl, fun p' lp' q' lq' e eq => ?_⟩
        subst eq
        cases p' with
        | slot j' =>
          obtain ⟨k', hc'⟩ := lp'
          obtain ⟨i', hi', hci', ha'⟩ := liveS hc'
          have := ok.inj (.slot i') (.fld n f) ⟨k', hci'⟩ lq' (ha'.symm.trans e); cases this
        | fld n' f' => exact (ok.inj (.fld n' f') (.fld n f) lp' lq' e).symm
        | ins n' => have := ok.inj (.ins n') (.fld n f) lp' lq' e; cases this
      | ins n =>
        refine ⟨.ins n, lp, rfl, fun p' lp' q' lq' e eq => ?_⟩
        subst eq
        cases p' with
        | slot j' =>
          obtain ⟨k', hc'⟩ := lp'
          obtain ⟨i', hi', hci', ha'⟩ := liveS hc'
          have := ok.inj (.slot i') (.ins n) ⟨k', hci'⟩ lq' (ha'.symm.trans e); cases this
        | fld n' f' => have := ok.inj (.fld n' f') (.ins n) lp' lq' e; cases this
        | ins n' => exact (ok.inj (.ins n') (.ins n) lp' lq' e).symm
    intro p p' lp lp' e
    obtain ⟨q, lq, ha, huniq⟩ := tr p lp
    exact huniq p' lp' q lq (e.symm.trans ha) rfl
end
end Iv
set_option linter.all false
set_option autoImplicit false
set_option maxRecDepth 100000
set_option maxHeartbeats 1000000
/-! Iv12: behind a call. -/
namespace Iv
open PySem (Str Expr Stmt CmpOp Operator BoolOp PyData Addr Value Scope)
open L2 (V HO Hp upd upd_same upd_ne ne_of ne_of_none SqL SqT Rd Same WX TE TT TA TS PE PT PA PS PSs PC PW R2 OpR Cx CallR XK)

section
variable {X : Tx} {σ σ' : L2.St} {c c0 c1 cc c' : Cfg}
theorem setC_slot {g g1 : Sg} {i : Nat} {k : C} (h : setC g (.slot i) k = some g1) : ∃ s s', g.rho[i]? = some s ∧ s.put k = some s' ∧ g1 = { g with rho := g.rho.set i s' } := by
  unfold setC at h
  simp only at h
  obtain ⟨s', hs, rfl⟩ := Option.map_eq_some_iff.mp h
  obtain ⟨s, h1, h2⟩ := Option.bind_eq_some_iff.mp hs
  exact ⟨s, s', h1, h2, rfl⟩
theorem wb_ok {gc : Sg} : ∀ {as : List Ar} {xs : List Arg} {g : Sg} {o : Nat} {outs : List C} {g0 g' : Sg}, argsOf g as = some xs → outsOf gc o xs = some outs → writeBack g0 (refsOf as) outs = some g' → (refsOf as).Nodup →
    g'.cs = g0.cs ∧ g'.rho.length = g0.rho.length ∧ (∀ i, i ∉ refsOf as → g'.rho[i]? = g0.rho[i]?) ∧ ∀ j i, lentTo as j = some i → ∃ k s s', gc.rho[o + j]? = some (.ref k) ∧ g0.rho[i]? = some s ∧ s.put k = some s' ∧ g'.rho[i]? = some s'
  | [], xs, g, o, outs, g0, g', hx, ho, hw, hn => by
    cases hx
    cases ho
    cases hw
    exact ⟨rfl, rfl, fun _ _ => rfl, fun j i h => by simp [lentTo] at h⟩
  | a :: as, xs, g, o, outs, g0, g', hx, ho, hw, hn => by
    unfold argsOf at hx
    split at hx
    case h_2 => cases hx
    rename_i x ys h1 h2
    cases hx
    cases a with
    | v d =>
      cases h1
      obtain ⟨a1, a2, a3, a4⟩ := wb_ok (o := o + 1) h2 (by simpa only [outsOf] using ho) hw hn
      refine ⟨a1, a2, a3, fun j i h => ?_⟩
      cases j with
      | zero => simp [lentTo] at h
      | succ j =>
        obtain ⟨k, s, s', q1, q2⟩ := a4 j i (by simpa [lentTo] using h)
        exact ⟨k, s, s', by rw [show o + (j + 1) = o + 1 + j by omega]; exact q1, q2⟩
    | l d =>
      have hv : ∃ e, x = .v e := by
        unfold Ar.arg at h1
        simp only at h1
        split at h1
        · split at h1
          · cases h1; exact ⟨_, rfl⟩
          · cases h1
        · cases h1
      obtain ⟨e, rfl⟩ := hv
      obtain ⟨a1, a2, a3, a4⟩ := wb_ok (o := o + 1) h2 (by simpa only [outsOf] using ho) hw hn
      refine ⟨a1, a2, a3, fun j i h => ?_⟩
      cases j with
      | zero => simp [lentTo] at h
      | succ j =>
        obtain ⟨k, s, s', q1, q2⟩ := a4 j i (by simpa [lentTo] using h)
        exact ⟨k, s, s', by rw [show o + (j + 1) = o + 1 + j by omega]; exact q1, q2⟩
    | r i0 =>
      have hv : ∃ e, x = .r e := by
        unfold Ar.arg at h1
        simp only at h1
        split at h1 <;> first | (cases h1; exact ⟨_, rfl⟩) | cases h1
      obtain ⟨e, rfl⟩ := hv
      obtain ⟨hk, hn'⟩ := List.nodup_cons.mp (show (i0 :: refsOf as).Nodup from hn)
      unfold outsOf at ho
      split at ho
      case h_2 => cases ho
      rename_i k cs q1 q2
      cases ho
      have hw' : writeBack g0 (i0 :: refsOf as) (k :: cs) = some g' := hw
      unfold writeBack at hw'
      split at hw'
      case h_2 => cases hw'
      rename_i g1 hs
      obtain ⟨s, s', r1, r2, rfl⟩ := setC_slot hs
      obtain ⟨a1, a2, a3, a4⟩ := wb_ok (o := o + 1) h2 q2 hw' hn'
      have hlt := (List.getElem?_eq_some_iff.mp r1).1
      refine ⟨a1, by rw [a2]; exact List.length_set, fun i hi => ?_, fun j i h => ?_⟩
      · have n1 : i ≠ i0 := fun z => hi (z ▸ List.mem_cons_self ..)
        rw [a3 i fun z => hi (List.mem_cons_of_mem _ z)]
        exact List.getElem?_set_ne (Ne.symm n1)
      · cases j with
        | zero =>
          have e : i0 = i := by simpa [lentTo] using h
          subst e
          refine ⟨k, s, s', q1, r1, r2, ?_⟩
          rw [a3 i0 hk]
          exact List.getElem?_set_self hlt
        | succ j =>
          have hj : lentTo as j = some i := by simpa [lentTo] using h
          have n1 : i0 ≠ i := fun z => hk (refs_mem.mpr ⟨j, z ▸ hj⟩)
          obtain ⟨k', t, t', p1, p2, p3⟩ := a4 j i hj
          refine ⟨k', t, t', by rw [show o + (j + 1) = o + 1 + j by omega]; exact p1, ?_, p3⟩
          rw [← p2]
          exact (List.getElem?_set_ne n1).symm
theorem put_cont {s s' : Sl} {k : C} (h : s.put k = some s') : s'.cont = some k ∧ ∃ k0, s.cont = some k0 := by
  cases s with
  | own q => cases h; exact ⟨rfl, q, rfl⟩
  | ref q => cases h; exact ⟨rfl, q, rfl⟩
  | un => cases h
  | val d => cases h
  | lck b q => cases h
/-- the caller's ghost behind the call -/
def callerS (cc c' : Cfg) : Gh where
  G := c'.S.G
  nc := c'.S.nc
  adr := fun p => match p with
    | .slot i => cc.S.adr (.slot i)
    | .fld n f => c'.S.adr (.fld n f)
    | .ins n => c'.S.adr (.ins n)
theorem call_back {N : List Str} {as : List Ar} {xs : List Arg} {vs : List V} {outs : List C} {g' : Sg} (ok : Ok X σ cc) (h : RAs X c0 cc as vs) (hx : argsOf cc.g as = some xs) (hl : hasLent as = false) (hn : (refsOf as).Nodup) (hN : as.length ≤ N.length)
    (st : Step false ⟨⟨initRho N.length xs, cc.g.cs⟩, calleeS cc as, cc.H⟩ c') (ok' : Ok X σ' c') (ho : outsOf c'.g 0 xs = some outs) (hw : writeBack { cc.g with cs := c'.g.cs } (refsOf as) outs = some g') :
    Step true cc ⟨g', callerS cc c', c'.H⟩ ∧ Ok X σ ⟨g', callerS cc c', c'.H⟩ ∧ ∀ a v, notBrw a = true → RR X ⟨⟨initRho N.length xs, cc.g.cs⟩, calleeS cc as, cc.H⟩ c' a v → RR X cc ⟨g', callerS cc c', c'.H⟩ a v := by
  obtain ⟨wcs, wlen, wout, win⟩ := wb_ok hx ho hw hn
  have okc := callee_ok (N := N) ok h hx hl hn hN
  have wcs : g'.cs = c'.g.cs := wcs
  have wlen : g'.rho.length = cc.g.rho.length := wlen
  have wout : ∀ i, i ∉ refsOf as → g'.rho[i]? = cc.g.rho[i]? := wout
  have win : ∀ j i, lentTo as j = some i → ∃ k s s', c'.g.rho[0 + j]? = some (.ref k) ∧ cc.g.rho[i]? = some s ∧ s.put k = some s' ∧ g'.rho[i]? = some s' := win
  -- where the caller's live places stand in the callee
  have toCc : ∀ q, Live (⟨initRho N.length xs, cc.g.cs⟩ : Sg) q → ∃ q', Live cc.g q' ∧ (calleeS cc as).adr q = cc.S.adr q' ∧ (∀ i, q' = .slot i → i ∈ refsOf as) := by
    intro q lq
    cases q with
    | slot j =>
      obtain ⟨k, hc⟩ := lq
      have hj := ref_slot (g := ⟨initRho N.length xs, cc.g.cs⟩) rfl hc
      obtain ⟨i, hi⟩ := lent_of hx hj
      obtain ⟨k', _, hs⟩ := lent_cont hx hi
      refine ⟨.slot i, ⟨k', cont_slot hs⟩, ?_, fun i' e => by cases e; exact refs_mem.mpr ⟨j, hi⟩⟩
      show cc.S.adr (.slot ((lentTo as j).getD 0)) = _
      rw [hi]; rfl
    | fld n f => exact ⟨.fld n f, lq, rfl, fun i e => by cases e⟩
    | ins n => exact ⟨.ins n, lq, rfl, fun i e => by cases e⟩
  have notin : ∀ i, i ∉ refsOf as → Live cc.g (.slot i) → ∀ q, Live (⟨initRho N.length xs, cc.g.cs⟩ : Sg) q → (calleeS cc as).adr q ≠ cc.S.adr (.slot i) := by
    intro i hi li q lq e
    obtain ⟨q', lq', e', hq⟩ := toCc q lq
    have := ok.inj q' (.slot i) lq' li (e'.symm.trans e)
    exact hi (hq i this)
  have stay : ∀ i, i ∉ refsOf as → ∀ k, cont cc.g (.slot i) = some k → c'.S.G (cc.S.adr (.slot i)) = none ∧ CR X c'.S c'.H (cc.S.adr (.slot i)) k := by
    intro i hi k hk
    obtain ⟨_, g, cr⟩ := ok.own i k hk
    obtain ⟨u, hu⟩ := Option.ne_none_iff_exists'.mp cr.some
    have f := st.fr (cc.S.adr (.slot i)) u hu (notin i hi ⟨k, hk⟩)
    refine ⟨(f.2 (cr.notup hu)).trans g, ?_⟩
    have cr2 : CR X (calleeS cc as) cc.H (cc.S.adr (.slot i)) k := CR.mono ge_callee (fun _ h => h) cr
    exact CR.mono st.ge (fun o h => by rw [hu] at h; cases h; exact f.1) cr2
  have lentC : ∀ j i, lentTo as j = some i → ∃ k, cont c'.g (.slot j) = some k ∧ cont g' (.slot i) = some k ∧ c'.S.adr (.slot j) = cc.S.adr (.slot i) ∧ ∃ k0, cont cc.g (.slot i) = some k0 := by
    intro j i hj
    obtain ⟨k, s, s', q1, q2, q3, q4⟩ := win j i hj
    rw [Nat.zero_add] at q1
    obtain ⟨p1, k0, p2⟩ := put_cont q3
    refine ⟨k, by show (c'.g.rho[j]?).bind Sl.cont = _; rw [q1]; rfl, by show (g'.rho[i]?).bind Sl.cont = _; rw [q4]; exact p1, ?_, k0, by show (cc.g.rho[i]?).bind Sl.cont = _; rw [q2]; exact p2⟩
    obtain ⟨kx, hxj, _⟩ := lent_cont hx hj
    have hlt : j < N.length := by have := (List.getElem?_eq_some_iff.mp hxj).1; rw [argsOf_length hx] at this; omega
    have r0 : (initRho N.length xs)[j]? = some (.ref kx) := by rw [initRho_at hxj]; rfl
    have e := (st.ref j kx r0).2
    rw [e]
    show cc.S.adr (.slot ((lentTo as j).getD 0)) = _
    rw [hj]; rfl
  have liveSlot : ∀ i, Live g' (.slot i) → Live cc.g (.slot i) := by
    rintro i ⟨k, hk⟩
    by_cases hi : i ∈ refsOf as
    · obtain ⟨j, hj⟩ := refs_mem.mp hi
      obtain ⟨_, _, _, _, k0, h0⟩ := lentC j i hj
      exact ⟨k0, h0⟩
    · refine ⟨k, ?_⟩
      have : (g'.rho[i]?).bind Sl.cont = some k := hk
      rw [wout i hi] at this
      exact this
  have fldE : ∀ n f, cont g' (.fld n f) = cont c'.g (.fld n f) := fun n f => by show (g'.cs[n]?).bind _ = (c'.g.cs[n]?).bind _; rw [wcs]
  have liveF : ∀ n f, Live g' (.fld n f) → Live c'.g (.fld n f) := fun n f ⟨k, hk⟩ => ⟨k, by rw [← fldE]; exact hk⟩
  have liveI : ∀ n, Live g' (.ins n) → Live c'.g (.ins n) := fun n h => by have h' : n < g'.cs.length := h; rw [wcs] at h'; exact h'
  have ge' : Ge c'.S (callerS cc c') := ⟨fun _ _ h => h, Nat.le_refl _, fun _ _ => rfl⟩
  have geC : Ge cc.S c'.S := ⟨st.G, st.nc, st.ia⟩
  -- a place of the callee's end is no slot of the caller's that was not lent
  have apart : ∀ i, Live g' (.slot i) → ∀ p, Live c'.g p → (∀ j, p ≠ .slot j) → c'.S.adr p ≠ cc.S.adr (.slot i) := by
    intro i li p lp hp e
    have lci := liveSlot i li
    by_cases hi : i ∈ refsOf as
    · obtain ⟨j, hj⟩ := refs_mem.mp hi
      obtain ⟨k, hk, _, ea, _⟩ := lentC j i hj
      have := ok'.inj p (.slot j) lp ⟨k, hk⟩ (e.trans ea.symm)
      exact hp j this
    · rcases st.live p lp with ⟨q, lq, eq⟩ | n
      · exact notin i hi lci q lq (eq.symm.trans e)
      · rw [e] at n
        exact (ok.tracked lci).1 n
  refine ⟨⟨st.G, st.nc, st.ia, st.trk, ?_, ?_, ?_, ?_, ?_, ?_, wlen⟩, ⟨?_, ?_, ?_, ?_, ?_, ?_, ?_, ?_⟩, ?_⟩
  · -- fr
    intro a u hu hp
    exact st.fr a u hu fun q lq e => by
      obtain ⟨q', lq', e', _⟩ := toCc q lq
      exact hp q' lq' (e'.symm.trans e)
  · -- live
    intro p lp
    cases p with
    | slot i => exact .inl ⟨.slot i, liveSlot i lp, rfl⟩
    | fld n f =>
      rcases st.live _ (liveF n f lp) with ⟨q, lq, e⟩ | m
      · obtain ⟨q', lq', e', _⟩ := toCc q lq
        exact .inl ⟨q', lq', e.trans e'⟩
      · exact .inr m
    | ins n =>
      rcases st.live _ (liveI n lp) with ⟨q, lq, e⟩ | m
      · obtain ⟨q', lq', e', _⟩ := toCc q lq
        exact .inl ⟨q', lq', e.trans e'⟩
      · exact .inr m
  · -- fkeep
    intro n f lf
    obtain ⟨⟨k, hk⟩, e⟩ := st.fkeep n f lf
    exact ⟨⟨k, by rw [fldE]; exact hk⟩, e⟩
  · -- slots
    intro _ i li
    exact ⟨liveSlot i li, rfl⟩
  · -- ref
    intro i k hk
    refine ⟨?_, rfl⟩
    by_cases hi : i ∈ refsOf as
    · obtain ⟨j, hj⟩ := refs_mem.mp hi
      obtain ⟨k', s, s', _, q2, q3, q4⟩ := win j i hj
      have hk' : cc.g.rho[i]? = some (.ref k) := hk
      rw [hk'] at q2
      cases q2
      cases q3
      exact ⟨k', q4⟩
    · exact ⟨k, (wout i hi).trans hk⟩
  · -- lck
    intro i b k hk
    refine ⟨?_, rfl⟩
    by_cases hi : i ∈ refsOf as
    · obtain ⟨j, hj⟩ := refs_mem.mp hi
      obtain ⟨k', s, s', _, q2, q3, q4⟩ := win j i hj
      have hk' : cc.g.rho[i]? = some (.lck b k) := hk
      rw [hk'] at q2
      cases q2
      cases q3
    · exact (wout i hi).trans hk
  · exact ok'.sub
  · exact ok.len.trans wlen.symm
  · show c'.S.nc = g'.cs.length
    rw [wcs]; exact ok'.nc
  · -- val
    intro i d hd
    have hd' : g'.rho[i]? = some (Sl.val d) := hd
    have h0 : cc.g.rho[i]? = some (.val d) := by
      by_cases hi : i ∈ refsOf as
      · obtain ⟨j, hj⟩ := refs_mem.mp hi
        obtain ⟨k', s, s', _, q2, q3, q4⟩ := win j i hj
        rw [hd'] at q4
        cases q4
        cases s <;> cases q3
      · rw [← wout i hi]; exact hd'
    obtain ⟨v, hv, r⟩ := ok.val i d h0
    exact ⟨v, hv, R.mono ge' d (R.mono geC d r)⟩
  · -- own
    intro i k hk
    have hk' : cont g' (.slot i) = some k := hk
    obtain ⟨k0, h0⟩ := liveSlot i ⟨k, hk'⟩
    refine ⟨(ok.own i k0 h0).1, ?_⟩
    show c'.S.G (cc.S.adr (.slot i)) = none ∧ CR X (callerS cc c') c'.H (cc.S.adr (.slot i)) k
    by_cases hi : i ∈ refsOf as
    · obtain ⟨j, hj⟩ := refs_mem.mp hi
      obtain ⟨k1, e1, e2, ea, _⟩ := lentC j i hj
      rw [hk'] at e2
      cases e2
      obtain ⟨_, g, cr⟩ := ok'.own j k e1
      rw [← ea]
      exact ⟨g, CR.mono ge' (fun _ h => h) cr⟩
    · have hk2 : cont cc.g (.slot i) = some k := by
        have : (g'.rho[i]?).bind Sl.cont = some k := hk'
        rw [wout i hi] at this
        exact this
      obtain ⟨g, cr⟩ := stay i hi k hk2
      exact ⟨g, CR.mono ge' (fun _ h => h) cr⟩
  · -- fld
    intro n f k hk
    have hk' : cont g' (.fld n f) = some k := hk
    rw [fldE] at hk'
    obtain ⟨g, cr⟩ := ok'.fld n f k hk'
    exact ⟨g, CR.mono ge' (fun _ h => h) cr⟩
  · -- ins
    intro n I hI
    have hI' : g'.cs[n]? = some I := hI
    rw [wcs] at hI'
    obtain ⟨g, Ca, dx, fs, hm, hh, fr⟩ := ok'.ins n I hI'
    exact ⟨g, Ca, dx, fs, hm, hh, FR.mono ge' (fun _ => rfl) fr⟩
  · -- inj
    intro p q lp lq e
    cases p with
    | slot i =>
      cases q with
      | slot i' => exact ok.inj (.slot i) (.slot i') (liveSlot i lp) (liveSlot i' lq) e
      | fld n f => exact absurd e.symm (apart i lp (.fld n f) (liveF n f lq) fun j z => nomatch z)
      | ins n => exact absurd e.symm (apart i lp (.ins n) (liveI n lq) fun j z => nomatch z)
    | fld n f =>
      cases q with
      | slot i => exact absurd e (apart i lq (.fld n f) (liveF n f lp) fun j z => nomatch z)
      | fld n' f' => exact ok'.inj (.fld n f) (.fld n' f') (liveF n f lp) (liveF n' f' lq) e
      | ins n' => exact ok'.inj (.fld n f) (.ins n') (liveF n f lp) (liveI n' lq) e
    | ins n =>
      cases q with
      | slot i => exact absurd e (apart i lq (.ins n) (liveI n lp) fun j z => nomatch z)
      | fld n' f' => exact ok'.inj (.ins n) (.fld n' f') (liveI n lp) (liveF n' f' lq) e
      | ins n' => exact ok'.inj (.ins n) (.ins n') (liveI n lp) (liveI n' lq) e
  · -- the result
    intro a v nb r
    cases a with
    | brw p => cases nb
    | val d => exact R.mono ge' d r
    | fresh k =>
      obtain ⟨b, e, g, cr, nl, o⟩ := r
      refine ⟨b, e, g, CR.mono ge' (fun _ h => h) cr, fun p lp z => ?_, ?_⟩
      · cases p with
        | slot i =>
          have z' : cc.S.adr (.slot i) = b := z
          by_cases hi : i ∈ refsOf as
          · obtain ⟨j, hj⟩ := refs_mem.mp hi
            obtain ⟨k1, e1, e2, ea, _⟩ := lentC j i hj
            exact nl (.slot j) ⟨k1, e1⟩ (ea.trans z')
          · rcases o with o | ⟨q, lq, eq⟩
            · exact (ok.tracked (liveSlot i lp)).1 (by rw [z']; exact o)
            · exact notin i hi (liveSlot i lp) q lq (eq.trans z'.symm)
        | fld n f => exact nl (.fld n f) (liveF n f lp) z
        | ins n => exact nl (.ins n) (liveI n lp) z
      · rcases o with o | ⟨q, lq, eq⟩
        · exact .inl o
        · obtain ⟨q', lq', e', _⟩ := toCc q lq
          exact .inr ⟨q', lq', e'.symm.trans eq⟩
end
end Iv
set_option linter.all false
set_option autoImplicit false
set_option maxRecDepth 100000
set_option maxHeartbeats 1000000
/-! Iv13: arguments, calls of the program's own defs. -/
namespace Iv
open PySem (Str Expr Stmt CmpOp Operator BoolOp PyData Addr Value Scope)
open L2 (V HO Hp upd upd_same upd_ne ne_of ne_of_none SqL SqT Rd Same WX TE TT TA TS PE PT PA PS PSs PC PW R2 OpR Cx CallR XK)

section
variable {X : Cx} {P : Pg} {W : WX} {a e : Expr} {es : List Expr} {pos p : PySem.Pos}
theorem RAs.any {X : Tx} {c0 c1 c : Cfg} : ∀ {as : List Ar} {vs : List V}, RAs X c0 c as vs → RAs X c1 c as vs
  | [], vs, h => h
  | .v d :: as, vs, ⟨v, q, e, h1, h2⟩ => ⟨v, q, e, h1, RAs.any h2⟩
  | .r d :: as, vs, ⟨v, q, e, h1, h2⟩ => ⟨v, q, e, h1, RAs.any h2⟩
  | .l d :: as, vs, ⟨v, q, e, h1, h2⟩ => ⟨v, q, e, h1, RAs.any h2⟩
abbrev tAr (X : Tx) (W : WX) (f : M (List Ar)) : TA := tM X W (RAs X) f
abbrev PRf (X : Cx) (W : WX) (es : List Expr) (f : M (List Ar)) : Prop := PA X es (tAr (tx X) W f)
theorem rR_nil : PRf X W [] (args P .nil) := by
  refine PA.imp L2.pa_nil ?_
  rintro σ H Q ⟨c, z, rfl, ok, h, p⟩
  simp only [args] at h
  cases h
  exact p.fin ok (by simp [RAs])
theorem rR_val {ta : T} {ts : Ts} (hn : args P (.cons ta ts) = bnd (takeM (ev P ta)) fun r => bnd (args P ts) fun xs => ret (.v r :: xs)) (hs : noStar a = true) (ha : PEf X W a (ev P ta)) (hb : PRf X W es (args P ts)) : PRf X W (a :: es) (args P (.cons ta ts)) := by
  refine PA.imp (L2.pa_cons ha hb (star_ok hs)) ?_
  rintro σ H Q ⟨c, z, rfl, ok, h, p⟩
  rw [hn] at h
  refine tD_tE (tM_bnd ras_backs ok h p fun d v1 c1 s1 ok1 rr1 h1 p1 => ?_)
  refine tM_bnd ras_backs ok1 h1 p1 fun ds vs c2 s2 ok2 rr2 h2 p2 => ?_
  cases h2
  refine p2.fin ok2 ?_
  exact ⟨v1, vs, rfl, R.mono s2.ge d rr1, rr2.any⟩
theorem rR_at {i : Nat} {t : T} {f : Ar} {ts : Ts} {x : Str} (hf : f = .r i ∨ f = .l i) (hn : args P (.cons t ts) = bnd (chkC i) fun _ => bnd (args P ts) fun xs => ret (f :: xs)) (hN : X.N[i]? = some x) (hv : L2.Vis X.env.scope x) (hd : (x == ("__debug__" : Str)) = false) (hcd : (x == ("__classdict__" : Str)) = false)
    (hb : PRf X W es (args P ts)) : PRf X W (.Name x p :: es) (args P (.cons t ts)) := by
  refine PA.imp (L2.pa_cons (L2.pe_var hN hv hd hcd) hb (star_ok rfl)) ?_
  rintro σ H Q ⟨c, z, rfl, ok, h, p⟩
  rw [hn] at h
  cases hk : cont c.g (.slot i) with
  | none =>
    rw [bnd_none (by unfold chkC liftO; simp only [hk]; rfl)] at h
    cases h
  | some k =>
    rw [bnd_ok (show chkC i c.g = some (.ok (), c.g) by unfold chkC liftO; simp only [hk]; rfl)] at h
    obtain ⟨hs, _⟩ := ok.own i k hk
    refine ⟨_, hs, ?_⟩
    refine tM_bnd ras_backs ok h p fun ds vs c2 s2 ok2 rr2 h2 p2 => ?_
    cases h2
    refine p2.fin ok2 ?_
    refine ⟨_, vs, rfl, ?_, rr2.any⟩
    have rr : RR (tx X) c c (.brw (.slot i)) (.ref (c.S.adr (.slot i))) := ⟨fun _ => rfl, trivial⟩
    have rr' := rr.mono s2
    rcases hf with rfl | rfl
    · exact rr'
    · exact rr'
end
section
variable {X : Tx} {c0 c : Cfg}
theorem RAs.append : ∀ {as bs : List Ar} {vs ws : List V}, RAs X c0 c as vs → RAs X c0 c bs ws → RAs X c0 c (as ++ bs) (vs ++ ws)
  | [], bs, vs, ws, h, h' => by rw [show vs = [] from h]; exact h'
  | a :: as, bs, vs, ws, ⟨v, q, e, h1, h2⟩, h' => by subst e; exact ⟨v, q ++ ws, rfl, h1, RAs.append h2 h'⟩
theorem RAs.vals : ∀ {ds : List D} {vs : List V}, RL X c.S ds vs → RAs X c0 c (ds.map Ar.v) vs
  | [], vs, h => by simp only [RL] at h; exact h
  | d :: ds, vs, h => by
    simp only [RL] at h
    obtain ⟨v, r, e, h1, h2⟩ := h
    exact ⟨v, r, e, h1, RAs.vals h2⟩
/-- data without a reference to an instance -/
theorem RL.nf' {S S' : Gh} (hG : ∀ a o, S.G a = some o → S'.G a = some o) : (∀ (d : D) {v : V}, nf d = true → R X S d v → R X S' d v) ∧ (∀ (ds : List D) {vs : List V}, nfs ds = true → RL X S ds vs → RL X S' ds vs) := by
  refine ⟨fun d => ?_, fun ds => ?_⟩
  · refine D.rec (motive_1 := fun d => ∀ {v : V}, nf d = true → R X S d v → R X S' d v) (motive_2 := fun ds => ∀ {vs : List V}, nfs ds = true → RL X S ds vs → RL X S' ds vs) ?_ ?_ ?_ ?_ ?_ ?_ ?_ ?_ ?_ ?_ ?_ d
    · intro v _ h; simpa [R] using h
    · intro b v _ h; simpa [R] using h
    · intro b v _ h; simpa [R] using h
    · intro b v _ h; simpa [R] using h
    · intro ds ih v hn h
      simp only [R] at h ⊢
      obtain ⟨a, xs, e, s, r⟩ := h
      exact ⟨a, xs, e, hG _ _ s, ih (by simpa [nf] using hn) r⟩
    · intro ds ih v hn h
      simp only [R] at h ⊢
      obtain ⟨a, xs, e, s, r⟩ := h
      exact ⟨a, xs, e, hG _ _ s, ih (by simpa [nf] using hn) r⟩
    · intro c ns ds ih v hn h
      simp only [R] at h ⊢
      obtain ⟨a, Ca, dx, fs, e, g, hm, hn', r⟩ := h
      exact ⟨a, Ca, dx, fs, e, hG _ _ g, hm, hn', ih (by simpa [nf] using hn) r⟩
    · intro n v hn h; simp [nf] at hn
    · intro ns v _ h
      simp only [R] at h ⊢
      obtain ⟨a, e, s⟩ := h
      exact ⟨a, e, sql_mono hG s⟩
    · intro vs _ h; simpa only [RL] using h
    · intro d ds ih1 ih2 vs hn h
      simp only [RL] at h ⊢
      obtain ⟨v, r, e, h1, h2⟩ := h
      simp only [nfs, Bool.and_eq_true] at hn
      exact ⟨v, r, e, ih1 hn.1 h1, ih2 hn.2 h2⟩
  · induction ds with
    | nil => intro vs _ h; simpa only [RL] using h
    | cons d ds ih =>
      intro vs hn h
      simp only [RL] at h ⊢
      obtain ⟨v, r, e, h1, h2⟩ := h
      simp only [nfs, Bool.and_eq_true] at hn
      refine ⟨v, r, e, ?_, ih hn.2 h2⟩
      refine D.rec (motive_1 := fun d => ∀ {v : V}, nf d = true → R X S d v → R X S' d v) (motive_2 := fun ds => ∀ {vs : List V}, nfs ds = true → RL X S ds vs → RL X S' ds vs) ?_ ?_ ?_ ?_ ?_ ?_ ?_ ?_ ?_ ?_ ?_ d hn.1 h1
      · intro v _ h; simpa [R] using h
      · intro b v _ h; simpa [R] using h
      · intro b v _ h; simpa [R] using h
      · intro b v _ h; simpa [R] using h
      · intro ds ih v hn h
        simp only [R] at h ⊢
        obtain ⟨a, xs, e, s, r⟩ := h
        exact ⟨a, xs, e, hG _ _ s, ih (by simpa [nf] using hn) r⟩
      · intro ds ih v hn h
        simp only [R] at h ⊢
        obtain ⟨a, xs, e, s, r⟩ := h
        exact ⟨a, xs, e, hG _ _ s, ih (by simpa [nf] using hn) r⟩
      · intro c ns ds ih v hn h
        simp only [R] at h ⊢
        obtain ⟨a, Ca, dx, fs, e, g, hm, hn', r⟩ := h
        exact ⟨a, Ca, dx, fs, e, hG _ _ g, hm, hn', ih (by simpa [nf] using hn) r⟩
      · intro n v hn h; simp [nf] at hn
      · intro ns v _ h
        simp only [R] at h ⊢
        obtain ⟨a, e, s⟩ := h
        exact ⟨a, e, sql_mono hG s⟩
      · intro vs _ h; simpa only [RL] using h
      · intro d ds ih1 ih2 vs hn h
        simp only [RL] at h ⊢
        obtain ⟨v, r, e, h1, h2⟩ := h
        simp only [nfs, Bool.and_eq_true] at hn
        exact ⟨v, r, e, ih1 hn.1 h1, ih2 hn.2 h2⟩
theorem R.nf {S S' : Gh} (hG : ∀ a o, S.G a = some o → S'.G a = some o) (d : D) {v : V} : nf d = true → R X S d v → R X S' d v := (RL.nf' hG).1 d
end

section
variable {X : Tx} {W : WX} {P : Pg} {σ : L2.St} {c c0 : Cfg} {Q : V → Hp → Prop} {N : List Str} {np fi : Nat} {xs : List Ar} {vs : List V} {z : Out Res × Sg}
/-- the values of an isolated call -/
theorem lent_vals {S' : Gh} (ok : Ok X σ c) (hG : ∀ a o, c.H a = some o → S'.G a = some o) : ∀ {as : List Ar} {ys : List Arg} {vs : List V}, RAs X c0 c as vs → argsOf c.g as = some ys → nfArgs ys = true → ∃ ds, ys = ds.map Arg.v ∧ RL X S' ds vs
  | [], ys, vs, h, hx, _ => by cases hx; exact ⟨[], rfl, by simp only [RL]; exact h⟩
  | a :: as, ys, vs, ⟨v, q, e, h1, h2⟩, hx, hf => by
    unfold argsOf at hx
    split at hx
    case h_2 => cases hx
    rename_i x zs hx1 hx2
    cases hx
    have hG' : ∀ a o, c.S.G a = some o → S'.G a = some o := fun a o h => hG a o (ok.sub a o h)
    cases x with
    | r k => simp [nfArgs] at hf
    | v d =>
      simp only [nfArgs, Bool.and_eq_true] at hf
      obtain ⟨ds, e2, rl⟩ := lent_vals ok hG h2 hx2 hf.2
      subst e e2
      refine ⟨d :: ds, rfl, ?_⟩
      simp only [RL]
      refine ⟨v, q, rfl, ?_, rl⟩
      cases a with
      | v d' => cases hx1; exact R.nf hG' _ hf.1 h1
      | r i =>
        unfold Ar.arg at hx1
        simp only at hx1
        split at hx1 <;> cases hx1
      | l i =>
        unfold Ar.arg at hx1
        simp only at hx1
        split at hx1
        · rename_i s hs
          split at hx1
          · rename_i ks hks
            cases hx1
            have hc : cont c.g (.slot i) = some (.lst ks) := by show (c.g.rho[i]?).bind Sl.cont = _; rw [hs]; exact hks
            obtain ⟨_, g, ws, hw, rl'⟩ := ok.own i _ hc
            have hv : v = .ref (c.S.adr (.slot i)) := h1.1 ⟨_, hc⟩
            subst hv
            simp only [R]
            exact ⟨_, ws, rfl, hG _ _ hw, (RL.nf' hG').2 ks (by simpa [nf] using hf.1) rl'⟩
          · cases hx1
        · cases hx1
/-- a call, from the arguments on -/
theorem call_core (ok : Ok X σ c) (hra : RAs X c0 c xs vs) (hnp : np ≤ N.length) (hc : ∀ as cs r, P.call fi as cs = some r → as.length = np) (h : callM P fi xs c.g = some z) (p : Post X W σ (RR X) c z Q) : spF X N np (P.call fi) vs c.H Q (L2.WE W σ) := by
  unfold callM at h
  cases hx : argsOf c.g xs with
  | none => simp only [hx] at h; cases h
  | some ys =>
  simp only [hx] at h
  have hlen := argsOf_length hx
  have hvl := hra.length
  cases hl : hasLent xs with
  | true =>
    rw [hl, if_pos rfl] at h
    split at h
    case isFalse => cases h
    rename_i hnf
    split at h
    case h_2 => cases h
    rename_i d cs' hcall
    split at h
    case isFalse => cases h
    rename_i hfl
    cases h
    have hn := hc _ _ _ hcall
    obtain ⟨ds, e, rl⟩ := lent_vals (S' := ⟨c.H, c.S.adr, 0⟩) ok (fun _ _ h => h) hra hx hnf
    have noslot : ∀ i k, cont (⟨initRho N.length ys, []⟩ : Sg) (.slot i) = some k → False := by
      intro i k hk
      have hj := ref_slot (g := ⟨initRho N.length ys, []⟩) rfl hk
      rw [e, List.getElem?_map] at hj
      obtain ⟨d', _, hd'⟩ := Option.map_eq_some_iff.mp hj
      cases hd'
    have nolive : ∀ q, Live (⟨initRho N.length ys, []⟩ : Sg) q → False := by
      intro q lq
      cases q with
      | slot i => obtain ⟨k, hk⟩ := lq; exact noslot i k hk
      | fld n f => obtain ⟨k, hk⟩ := lq; cases hk
      | ins n => exact absurd (show n < 0 from lq) (Nat.not_lt_zero _)
    have okc : Ok X (L2.start N vs) ⟨⟨initRho N.length ys, []⟩, ⟨c.H, c.S.adr, 0⟩, c.H⟩ := by
      refine ⟨fun _ _ h => h, ?_, rfl, ?_, ?_, ?_, ?_, ?_⟩
      · rw [start_length (by omega)]
        exact (initRho_length (by omega)).symm
      · intro i d' hd'
        rcases initRho_get (show (initRho N.length ys)[i]? = some (.val d') from hd') with ⟨d2, hx', e2⟩ | ⟨k, _, e2⟩ | e2
        · cases e2
          rw [e, List.getElem?_map] at hx'
          obtain ⟨d3, h3, h4⟩ := Option.map_eq_some_iff.mp hx'
          cases h4
          obtain ⟨v, hv, r⟩ := rl.get h3
          exact ⟨v, start_at hv, r⟩
        · cases e2
        · cases e2
      · intro i k hk; exact (noslot i k hk).elim
      · intro n f k hk; cases hk
      · intro n I hI; simp at hI
      · intro q q' lq; exact (nolive q lq).elim
    refine ⟨ys, ⟨⟨initRho N.length ys, []⟩, ⟨c.H, c.S.adr, 0⟩, c.H⟩, _, by omega, by omega, rfl, rfl, okc, hcall, fun a ha => ?_, fun x hx => by cases hx⟩
    cases ha
    refine ⟨rfl, fun v σ' c' st ok' _ _ rr => ?_⟩
    have keep : ∀ a o, c.H a = some o → c'.H a = some o := fun a o h => ok'.sub _ _ (st.G a o h)
    have ok2 : Ok X σ ⟨c.g, c.S, c'.H⟩ := ok.heap (S' := c.S) (H' := c'.H) ⟨fun _ _ h => h, Nat.le_refl _, fun _ _ => rfl⟩ rfl rfl (fun a o h => keep a o (ok.sub a o h)) fun q lq => ⟨by
      obtain ⟨o, ho⟩ := Option.ne_none_iff_exists'.mp (ok.tracked lq).1
      rw [ho]; exact keep _ _ ho, rfl⟩
    have st2 : Step true c ⟨c.g, c.S, c'.H⟩ := ⟨fun _ _ h => h, Nat.le_refl _, fun _ _ => rfl, fun a h => by
      obtain ⟨o, ho⟩ := Option.ne_none_iff_exists'.mp h
      show c'.H a ≠ none
      rw [keep _ _ ho]; exact (fun z => nomatch z), fun a o h _ => ⟨keep a o h, fun _ => rfl⟩, fun q lq => .inl ⟨q, lq, rfl⟩, fun _ _ h => ⟨h, rfl⟩, fun _ _ h => ⟨h, rfl⟩, fun _ k h => ⟨⟨k, h⟩, rfl⟩, fun _ _ _ h => ⟨h, rfl⟩, rfl⟩
    refine p.1 _ rfl v ⟨c.g, c.S, c'.H⟩ rfl st2 ok2 ?_
    have rr' : R X c'.S d v := rr
    show R X c.S d v
    cases d <;> first | (simp only [R] at rr' ⊢; exact rr') | cases hfl
  | false =>
    rw [hl, if_neg Bool.false_ne_true] at h
    split at h
    case h_2 => cases h
    rename_i o outs cs' hcall
    split at h
    case isFalse => cases h
    rename_i hnd
    split at h
    case h_2 => cases h
    rename_i g' hw
    have hn := hc _ _ _ hcall
    have okc := callee_ok (N := N) ok hra hx hl hnd (by omega)
    refine ⟨ys, ⟨⟨initRho N.length ys, c.g.cs⟩, calleeS c xs, c.H⟩, _, by omega, by omega, rfl, rfl, okc, hcall, fun a ha => ?_, fun x hx' => ?_⟩
    · have ha' : o = .ok a := ha
      subst ha'
      have nb : notBrw a = true := by cases a <;> first | rfl | cases h
      refine ⟨nb, fun v σ' c' st ok' ho hcs rr => ?_⟩
      have hcs' : c'.g.cs = cs' := hcs
      obtain ⟨st2, ok2, rr2⟩ := call_back ok hra hx hl hnd (by omega) st ok' ho (by rw [hcs']; exact hw)
      have hz : z = (.ok a, g') := by cases a <;> first | (cases h; rfl) | cases h
      subst hz
      exact p.1 _ rfl v ⟨g', callerS c c', c'.H⟩ rfl st2 ok2 (rr2 a v nb rr)
    · have ho' : o = .exc x := hx'
      subst ho'
      cases h
      intro cls dx σ' c' st ok' ho hcs rx
      have hcs' : c'.g.cs = cs' := hcs
      obtain ⟨st2, ok2, _⟩ := call_back ok hra hx hl hnd (by omega) st ok' ho (by rw [hcs']; exact hw)
      refine p.2 x rfl cls dx ⟨g', callerS c c', c'.H⟩ rfl st2 ok2 ?_
      obtain ⟨Ca, e1, e2, e3⟩ := rx
      refine ⟨Ca, e1, e2, ?_⟩
      cases hf : x.fs with
      | nil => trivial
      | cons f r =>
        rw [hf] at e3
        obtain ⟨d, ws, q1, q2, q3, q4⟩ := e3
        exact ⟨d, ws, q1, q2, q3, RL.mono (S := c'.S) (S' := callerS c c') ⟨fun _ _ h => h, Nat.le_refl _, fun _ _ => rfl⟩ _ q4⟩
end
section
variable {X : Cx} {P : Pg} {W : WX} {e o : Expr} {es : List Expr} {pos p apos : PySem.Pos} {k fi : Nat} {f C : Addr} {fd : PySem.FuncData} {ps N : List Str} {dd : List D} {dvs : List V} {ds : List Value} {x m : Str} {ts : Ts} {to : T}
/-- what is known of a def that is called -/
structure Cal (X : Cx) (W : WX) (P : Pg) (k fi : Nat) (f : Addr) (dd : List D) where
  fd : PySem.FuncData
  ps : List Str
  N : List Str
  ds : List Value
  dvs : List V
  ok : L2.FnOk X.prog X.w X.K X.mg X.base (L2.CX X.prog X.w) k f fd ps (spF (tx X) N ps.length (P.call fi))
  hN : ps.length ≤ N.length
  hc : ∀ as cs r, P.call fi as cs = some r → as.length = ps.length
  hb : L2.Binds X.K fd ps ds
  hd : L2.Vals dvs ds
  hD : ∀ S, RL (tx X) S dd dvs
theorem Cal.sp {σ : L2.St} {c : Cfg} {xs : List Ar} {vs : List V} {z : Out Res × Sg} {Q : V → Hp → Prop} (F : Cal X W P k fi f dd) (ok : Ok (tx X) σ c) (hra : ∀ c0, RAs (tx X) c0 c xs vs) (h : callM P fi (xs ++ dd.map .v) c.g = some z) (p : Post (tx X) W σ (RR (tx X)) c z Q) :
    spF (tx X) F.N F.ps.length (P.call fi) (vs ++ F.dvs) c.H Q (L2.WE W σ) := by
  have h2 : RAs (tx X) c c (dd.map Ar.v) F.dvs := RAs.vals (F.hD c.S)
  exact call_core ok ((hra c).append h2) F.hN F.hc h p
theorem r_call (F : Cal X W P k fi f dd) (hr : L2.Room k X.A) (hg : L2.Gl X x) (hm : X.mg x = some (.ref f)) (hk : PySem.W.keepIn X.K (.ref f) = true) (tk : L2.Takes X W) (hdb : (x == ("__debug__" : Str)) = false) (hs : ∀ y ∈ es, noStar y = true)
    (hpl : (PySem.backTo pos (PySem.starEach es.tail X.env)).any (·.1) = false) (hts : es = [] → ts = .nil) (ha : PRf X W es (args P ts)) : PEf X W (.Call (.Name x p) es [] pos) (ev P (.call fi ts dd)) := by
  have core : ∀ σ H Q, tE (tx X) W (ev P (.call fi ts dd)) σ H Q → L2.tCallSD (spF (tx X) F.N F.ps.length (P.call fi)) F.dvs (L2.WE W) (tAr (tx X) W (args P ts)) σ H Q := by
    rintro σ H Q ⟨c, z, rfl, ok, h, p⟩
    simp only [ev] at h
    refine tM_bnd rr_backs ok h p fun xs vs c1 s1 ok1 ra h1 p1 => ?_
    exact F.sp ok1 (fun c0 => ra.any) h1 p1
  cases es with
  | cons e es => exact PE.imp (L2.pe_callSD F.ok hr hg hm hk F.hb F.hd (L2.passAt tk) ha hdb (star_ok (hs e (List.mem_cons_self ..))) hpl) core
  | nil =>
    refine ⟨fun pins s σ H Q I h => ?_⟩
    have hts' := hts rfl
    subst hts'
    have h3 : spF (tx X) F.N F.ps.length (P.call fi) ([] ++ F.dvs) H Q (L2.WE W σ) := by
      obtain ⟨c, z, rfl, ok, h, p⟩ := h
      simp only [ev, args] at h
      exact F.sp (xs := []) ok (fun c0 => rfl) h p
    refine PySem.wpAny_Call_Name_kw (L2.ld_glob I hg hm ?_ hdb)
    exact PySem.W.callWith_K0 I.kIn hk (L2.run_fnSD (us := []) (vs := []) F.ok hr F.hb F.hd (L2.passAt tk σ) I .nil h3)
end
end Iv
set_option linter.all false
set_option autoImplicit false
set_option maxRecDepth 100000
set_option maxHeartbeats 1000000
/-! Iv14: methods, instances. -/
namespace Iv
open PySem (Str Expr Stmt CmpOp Operator BoolOp PyData Addr Value Scope Env Pos)
open L2 (V HO Hp upd upd_same upd_ne ne_of ne_of_none SqL SqT Rd Same WX TE TT TA TS PE PT PA PS PSs PC PW R2 OpR Cx CallR XK)

/-! ### the form of a method's call -/
def noSup : Expr → Bool
  | .Call (.Name x _) [] [] _ => x != "super"
  | _ => true
theorem nosup_ok {o : Expr} {f : Str} {env : Env} {w : PySem.Sem Value} (h : noSup o = true) : PySem.attributeBase o f env w = w := by
  unfold PySem.attributeBase
  split
  · rename_i id p pos
    have h' : (id != "super") = true := h
    rw [h']
    simp only [Bool.true_or, if_true, pure_bind, bind_pure]
  · rfl
theorem star_env {e : Expr} {es : List Expr} {env : Env} (h : noStar e = true) : PySem.starEach (e :: es) env = (false, PySem.eval e env) :: PySem.starEach es env := by
  cases e <;> first | rfl | (simp [noStar] at h)
theorem noany : ∀ {es : List Expr} {env : Env} {pos : Pos}, (∀ y ∈ es, noStar y = true) → (PySem.backTo pos (PySem.starEach es env)).any (·.1) = false
  | [], env, pos, _ => rfl
  | e :: es, env, pos, h => by
    rw [star_env (h e (List.mem_cons_self ..))]
    show (false || (PySem.backTo pos (PySem.starEach es env)).any (·.1)) = false
    rw [noany fun y hy => h y (List.mem_cons_of_mem _ hy)]
    rfl
theorem noall {l : List (Bool × PySem.Sem Value)} (h : l.any (·.1) = false) : l.all (!·.1) = true := by
  induction l with
  | nil => rfl
  | cons a l ih =>
    obtain ⟨b, t⟩ := a
    simp only [List.any_cons, Bool.or_eq_false_iff] at h
    simp only [List.all_cons, h.1, ih h.2, Bool.not_false, Bool.and_self]
theorem meth_ev {o : Expr} {m : Str} {es : List Expr} {pos apos : Pos} {env : Env} (hsup : noSup o = true) (hs : ∀ y ∈ es, noStar y = true) (hn : es.length < 30) (hl : (apos.endLine == pos.line) = true) :
    PySem.eval (.Call (.Attribute o m apos) es [] pos) env = (do
      let v ← PySem.eval o env
      PySem.standAt apos.atName
      let (g, first) ← PySem.holding [v] (PySem.getMethod v m (do return (← PySem.importBound o env).getD true))
      PySem.callWith pos g first (PySem.backTo pos (PySem.starEach es env)) (PySem.backToKw pos (PySem.keywordEach [] env))) := by
  have e : PySem.eval (.Call (.Attribute o m apos) es [] pos) env = (do
    let v ← PySem.attributeBase o m env (PySem.eval o env)
    PySem.standAt apos.atName
    PySem.methodCall o m apos pos env v (es.length + 0) (PySem.backTo pos (PySem.starEach es env)) (PySem.backToKw pos (PySem.keywordEach [] env))) := rfl
  rw [e, nosup_ok hsup]
  have f : PySem.methodCallForm (es.length + 0) (PySem.backTo pos (PySem.starEach es env)) (PySem.backToKw pos (PySem.keywordEach [] env)) = true := by
    unfold PySem.methodCallForm
    rw [noall (noany hs)]
    show (true && true && decide (es.length + 0 + 0 < 30)) = true
    simpa using hn
  unfold PySem.methodCall PySem.calleeOf PySem.methodCallPos
  rw [f, hl]
  simp only [if_true, Bool.not_true, Bool.or_true, Bool.false_or, pure_bind]

section
variable {X : Cx} {P : Pg} {W : WX} {e o : Expr} {es : List Expr} {pos p apos : PySem.Pos} {k fi : Nat} {f C : Addr} {dd : List D} {x m cn : Str} {ts : Ts} {to : T} {σ : L2.St} {H : Hp} {s : PySem.Shared} {pins : List (Addr × PySem.Obj)}
theorem with_args {g : Value} {first : List Value} {Q1 : List V → Hp → Prop} {Q : Value → PySem.Shared → Prop} (ha : PRf X W es (args P ts)) (hts : es = [] → ts = .nil) (hs : ∀ y ∈ es, noStar y = true) (hk : PySem.W.keepIn X.K g = true) (I : L2.Inv X pins σ H s) (h : tAr (tx X) W (args P ts) σ H Q1)
    (hq : ∀ us s1 vs H1, L2.Inv X pins σ H1 s1 → L2.Vals vs us → Q1 vs H1 → PySem.wpAny (PySem.model X.prog X.w) X.A (PySem.call g (first ++ us)) Q X.xe s1) :
    PySem.wpAny (PySem.model X.prog X.w) X.A (PySem.callWith pos g first (PySem.backTo pos (PySem.starEach es X.env)) (PySem.backToKw pos (PySem.keywordEach [] X.env))) Q X.xe s := by
  cases es with
  | nil =>
    have e := hts rfl
    subst e
    obtain ⟨c, z, rfl, ok, h, p⟩ := h
    simp only [args] at h
    cases h
    have q := p.fin ok (show RAs (tx X) c c [] [] from rfl)
    exact PySem.W.callWith_K0 I.kIn hk (hq [] s [] c.H I .nil q)
  | cons a es =>
    exact PySem.W.callWith_K (h₀ := X.base) I.ok.mod.kin hk (L2.thn (ha.run pos pins s σ H Q1 I h) fun us s1 ⟨vs, H1, I1, r, q⟩ => ⟨I1.kIn, hq us s1 vs H1 I1 r q⟩) (star_ok (hs a (List.mem_cons_self ..))) (noany fun y hy => hs y (List.mem_cons_of_mem _ hy))
theorem FR.lookup {X : Tx} {S : Gh} {n : Nat} {f : Str} : ∀ {fs : List (Str × Sl)} {vs : List (Str × V)}, FR X S n fs vs → match fget f fs with
    | none => vs.lookup f = none
    | some (.val d) => ∃ v, vs.lookup f = some v ∧ R X S d v
    | some .un => False
    | some _ => vs.lookup f = some (.ref (S.adr (.fld n f)))
  | [], vs, h => by rw [show vs = [] from h]; rfl
  | (g, s) :: r, vs, ⟨v, q, e, h1, h2⟩ => by
    subst e
    unfold fget
    by_cases hg : g = f
    · subst hg
      rw [if_pos rfl]
      have l : (((g, v) :: q : List (Str × V)).lookup g) = some v := by simp [List.lookup]
      cases s with
      | un => exact h1
      | val d => exact ⟨v, l, h1⟩
      | own c => rw [h1] at l; rw [h1]; exact l
      | ref c => rw [h1] at l; rw [h1]; exact l
      | lck b c => rw [h1] at l; rw [h1]; exact l
    · rw [if_neg hg]
      have l : (((g, v) :: q : List (Str × V)).lookup f) = q.lookup f := by
        have : (f == g) = false := beq_false_of_ne fun z => hg z.symm
        simp [List.lookup, this]
      rw [l]
      exact FR.lookup h2
theorem chkI_some {c m : Str} {x : Res} {g : Sg} {z : Out Nat × Sg} (h : chkI c m x g = some z) : ∃ n I, x = .val (.cell n) ∧ z = (.ok n, g) ∧ g.cs[n]? = some I ∧ I.c = c ∧ fget m I.fs = none := by
  unfold chkI at h
  obtain ⟨n, hn, rfl⟩ := liftO_some h
  split at hn
  · rename_i n'
    obtain ⟨I, hI, h2⟩ := Option.bind_eq_some_iff.mp hn
    split at h2
    · rename_i hc
      cases h2
      refine ⟨n, I, rfl, rfl, hI, hc.1, ?_⟩
      have := hc.2
      cases hf : fget m I.fs with
      | none => rfl
      | some s => rw [hf] at this; cases this
    · cases h2
  · cases hn
/-- behind the receiver: its class, its method -/
theorem recv {T : Tx} {c0 c : Cfg} {σ : L2.St} {n : Nat} {I : Inst} {v : V} (ok : Ok T σ c) (h : RR T c0 c (.val (.cell n)) v) (hI : c.g.cs[n]? = some I) : ∃ Ca dx fs, v = .ref (c.S.adr (.ins n)) ∧ T.mg I.c = some (.ref Ca) ∧ c.H (c.S.adr (.ins n)) = some (.ins Ca dx fs) ∧ FR T c.S n I.fs fs := by
  have h' : R T c.S (.cell n) v := h
  simp only [R] at h'
  obtain ⟨_, Ca, dx, fs, hm, hh, fr⟩ := ok.ins n I hI
  exact ⟨Ca, dx, fs, h'.1, hm, hh, fr⟩
theorem r_omet (he : PEf X W o (ev P to)) (c : L2.Cls X.K C) (hC : X.mg cn = some (.ref C)) (hm : L2.Meth X.K C m f) (hf : P.meth cn m = some fi) (F : Cal X W P k fi f dd) (hr : L2.Room k X.A) (tk : L2.Takes X W) (hs : ∀ y ∈ es, noStar y = true) (hn : es.length < 30) (hsup : noSup o = true) (hl : (apos.endLine == pos.line) = true)
    (hts : es = [] → ts = .nil) (ha : PRf X W es (args P ts)) : PEf X W (.Call (.Attribute o m apos) es [] pos) (ev P (.omet cn to m ts dd)) := by
  refine ⟨fun pins s σ H Q I h => ?_⟩
  obtain ⟨c0, z, rfl, ok, h, p⟩ := h
  simp only [ev] at h
  let Q1 : V → Hp → Prop := fun x H1 => ∃ a dx fs, x = .ref a ∧ H1 a = some (.ins C dx fs) ∧ fs.lookup m = none ∧ tAr (tx X) W (args P ts) σ H1 fun vs H2 => spF (tx X) F.N F.ps.length (P.call fi) (x :: (vs ++ F.dvs)) H2 Q (L2.WE W σ)
  have h1 : tE (tx X) W (ev P to) σ c0.H Q1 := by
    refine tM_bnd rr_backs ok h p fun x v1 c1 s1 ok1 rr1 h1 p1 => ?_
    cases hk : chkI cn m x c1.g with
    | none => rw [bnd_none hk] at h1; cases h1
    | some y =>
      obtain ⟨n, J, rfl, rfl, hJ, hc, hfm⟩ := chkI_some hk
      rw [bnd_ok hk] at h1
      obtain ⟨Ca, dx, fs, ev1, hm1, hh, fr⟩ := recv ok1 rr1 hJ
      rw [hc] at hm1
      have eC : Ca = C := by
        have hm2 : X.mg cn = some (.ref Ca) := hm1
        rw [hC] at hm2
        cases hm2
        rfl
      subst eC
      have lk := fr.lookup (f := m)
      rw [hfm] at lk
      refine ⟨_, dx, fs, ev1, hh, lk, ?_⟩
      refine tM_bnd rr_backs ok1 h1 p1 fun xs vs c2 s2 ok2 ra h2 p2 => ?_
      rw [hf] at h2
      have hr1 : R (tx X) c1.S (.cell n) v1 := rr1
      exact F.sp (xs := .v (.cell n) :: xs) (vs := v1 :: vs) ok2 (fun c0 => ⟨v1, vs, rfl, R.mono s2.ge _ hr1, ra.any⟩) h2 p2
  refine PySem.W.methodCall_KW (L2.thn (he.run pins s σ c0.H Q1 I h1) fun u s1 ⟨x, H1, I1, rx, q1⟩ => ?_) (meth_ev hsup hs hn hl)
  obtain ⟨a, dx, fs, ex, ea, l, q⟩ := q1
  subst ex
  have eu : u = Value.ref a := rx
  subst eu
  refine L2.getmeth_ok I1 ea c hm l ?_
  refine with_args (first := [.ref a]) ha hts hs hm.kp I1 q fun us s2 vs H2 I2 rv hsp => ?_
  exact L2.run_fnSD (us := .ref a :: us) (vs := .ref a :: vs) F.ok hr F.hb F.hd (L2.passAt tk σ) I2 (.cons rfl rv) hsp
/-- o.f -/
theorem r_attr (he : PEf X W o (ev P to)) (hsup : noSup o = true) (hcl : ∀ c f C, P.fld c f = true → X.mg c = some (.ref C) → L2.Cls X.K C ∧ L2.NoAttr X.K C f) : PEf X W (.Attribute o m pos) (ev P (.attr to m)) := by
  refine PE.imp (L2.pe_fld he (nosup_ok hsup)) ?_
  rintro σ H Q ⟨c, z, rfl, ok, h, p⟩
  simp only [ev] at h
  refine tM_bnd rr_backs ok h p fun x v1 c1 s1 ok1 rr1 h1 p1 => ?_
  obtain ⟨r, hr, rfl⟩ := liftO_some h1
  split at hr
  case h_2 => cases hr
  rename_i d
  unfold attrD at hr
  split at hr
  · rename_i cn ns ds
    split at hr
    case isFalse => cases hr
    rename_i hfl
    obtain ⟨w, hw, rfl⟩ := Option.map_eq_some_iff.mp hr
    have h' : R (tx X) c1.S (.obj cn ns ds) v1 := rr1
    simp only [R] at h'
    obtain ⟨a, Ca, dx, fs, e, g, hm, hns, rl⟩ := h'
    obtain ⟨cl, na⟩ := hcl cn m Ca hfl hm
    have go : ∀ (fs : List (Str × V)) (ns : List Str) (ds : List D), fs.map (·.1) = ns → RL (tx X) c1.S ds (fs.map (·.2)) → oget m ns ds = some w → ∃ v, fs.lookup m = some v ∧ R (tx X) c1.S w v := by
      intro fs
      induction fs with
      | nil => intro ns ds e1 rl e2; subst e1; simp only [List.map_nil] at e2; cases ds <;> simp [oget] at e2
      | cons q fs ih =>
        obtain ⟨g, v⟩ := q
        intro ns ds e1 rl e2
        subst e1
        cases ds with
        | nil => simp [oget] at e2
        | cons d ds =>
          simp only [List.map_cons, RL] at rl
          obtain ⟨v', r, e3, r1, r2⟩ := rl
          cases e3
          simp only [List.map_cons, oget] at e2
          by_cases hg : g = m
          · subst hg
            rw [if_pos rfl] at e2
            cases e2
            exact ⟨v, by simp [List.lookup], r1⟩
          · rw [if_neg hg] at e2
            obtain ⟨v2, l2, r3⟩ := ih _ ds rfl r2 e2
            refine ⟨v2, ?_, r3⟩
            have : (m == g) = false := beq_false_of_ne fun z => hg z.symm
            simp [List.lookup, this, l2]
    obtain ⟨v, hv, rv⟩ := go fs ns ds hns rl hw
    exact ⟨a, Ca, dx, fs, v, e, ok1.sub _ _ g, cl, na, hv, p1.read ok1 rv⟩
  · rename_i n
    split at hr
    case h_2 => cases hr
    rename_i J hJ
    split at hr
    case isFalse => cases hr
    rename_i hfl
    obtain ⟨Ca, dx, fs, ev1, hm1, hh, fr⟩ := recv ok1 rr1 hJ
    obtain ⟨cl, na⟩ := hcl J.c m Ca hfl hm1
    have lk := fr.lookup (f := m)
    split at hr
    · rename_i d' hd'
      cases hr
      rw [hd'] at lk
      obtain ⟨v, hv, rv⟩ := lk
      exact ⟨_, Ca, dx, fs, v, ev1, hh, cl, na, hv, p1.read ok1 rv⟩
    · rename_i k hk
      cases hr
      rw [hk] at lk
      have hcf : cont c1.g (.fld n m) = some k := by
        show (c1.g.cs[n]?).bind (fun I => (fget m I.fs).bind Sl.cont) = some k
        rw [hJ]
        show (fget m J.fs).bind Sl.cont = some k
        rw [hk]; rfl
      exact ⟨_, Ca, dx, fs, _, ev1, hh, cl, na, lk, p1.fin ok1 ⟨fun _ => rfl, ⟨k, hcf⟩⟩⟩
    · cases hr
  · cases hr
end
end Iv
set_option linter.all false
set_option autoImplicit false
set_option maxRecDepth 100000
set_option maxHeartbeats 1000000
/-! Iv15: a new instance. -/
namespace Iv
open PySem (Str Expr Stmt CmpOp Operator BoolOp PyData Addr Value Scope Env Pos)
open L2 (V HO Hp upd upd_same upd_ne ne_of ne_of_none SqL SqT Rd Same WX TE TT TA TS PE PT PA PS PSs PC PW R2 OpR Cx CallR XK)

/-- a new instance's configuration -/
def Cfg.make (c : Cfg) (cn : Str) (C x dx : Addr) : Cfg where
  g := { c.g with cs := c.g.cs ++ [⟨cn, []⟩] }
  S := { G := c.S.G, adr := fun p => if p = .ins c.g.cs.length then x else c.S.adr p, nc := c.S.nc + 1 }
  H := upd (upd c.H dx (.own x)) x (.ins C dx [])
section
variable {X : Tx} {σ : L2.St} {c c0 : Cfg} {cn : Str} {C x dx : Addr}
theorem make_keep {H : Hp} {a : Addr} {u o1 o2 : HO} (hx : H x = none) (hd : H dx = none) (h : H a = some u) : upd (upd H dx o1) x o2 a = some u := by
  rw [upd_ne (ne_of_none h hx), upd_ne (ne_of_none h hd)]; exact h
theorem make_cont (p : Pl) : cont (c.make cn C x dx).g p = cont c.g p := by
  cases p with
  | slot i => rfl
  | fld n f =>
    show ((c.g.cs ++ [⟨cn, []⟩])[n]?).bind _ = (c.g.cs[n]?).bind _
    by_cases h : n < c.g.cs.length
    · rw [List.getElem?_append_left h]
    · rw [List.getElem?_append_right (Nat.le_of_not_lt h), List.getElem?_eq_none (Nat.le_of_not_lt h)]
      cases h' : n - c.g.cs.length with
      | zero => simp [fget]
      | succ m => simp
theorem make_live {p : PlX} (h : Live (c.make cn C x dx).g p) : p = .ins c.g.cs.length ∨ Live c.g p := by
  cases p with
  | slot i => exact .inr h
  | fld n f =>
    obtain ⟨k, hk⟩ := h
    have hk2 : cont c.g (.fld n f) = some k := by rw [← make_cont (cn := cn) (C := C) (x := x) (dx := dx)]; exact hk
    have q : Live c.g (.fld n f) := ⟨k, hk2⟩
    exact .inr q
  | ins n =>
    have h' : n < (c.g.cs ++ ([⟨cn, []⟩] : List Inst)).length := h
    rw [List.length_append] at h'
    by_cases e : n = c.g.cs.length
    · exact .inl (by rw [e])
    · have q : n < c.g.cs.length := by
        simp only [List.length_cons, List.length_nil] at h'
        omega
      exact .inr q
theorem make_adr {p : PlX} (h : p ≠ .ins c.g.cs.length) : (c.make cn C x dx).S.adr p = c.S.adr p := if_neg h
theorem make_slot {i : Nat} : (c.make cn C x dx).S.adr (.slot i) = c.S.adr (.slot i) := make_adr (by simp)
theorem make_fld {n : Nat} {f : Str} : (c.make cn C x dx).S.adr (.fld n f) = c.S.adr (.fld n f) := make_adr (by simp)
theorem make_new : (c.make cn C x dx).S.adr (.ins c.g.cs.length) = x := if_pos rfl
theorem live_ne {p : PlX} (h : Live c.g p) : p ≠ .ins c.g.cs.length := by
  rintro rfl
  exact absurd (show c.g.cs.length < c.g.cs.length from h) (Nat.lt_irrefl _)
theorem ge_make (ok : Ok X σ c) : Ge c.S (c.make cn C x dx).S := ⟨fun _ _ h => h, Nat.le_succ _, fun n hn => make_adr (by rw [ok.nc] at hn; rintro e; cases e; exact Nat.lt_irrefl _ hn)⟩
theorem Ok.make (ok : Ok X σ c) (hm : X.mg cn = some (.ref C)) (hx : c.H x = none) (hd : c.H dx = none) (hne : dx ≠ x) : Ok X σ (c.make cn C x dx) where
  sub := fun a o h => make_keep hx hd (ok.sub a o h)
  len := ok.len
  nc := by show c.S.nc + 1 = (c.g.cs ++ [_]).length; rw [List.length_append, ok.nc]; rfl
  val := fun i d h => let ⟨v, e, r⟩ := ok.val i d h; ⟨v, e, R.mono (ge_make ok) d r⟩
  own := fun i k h => by
    obtain ⟨e, g, cr⟩ := ok.own i k h
    rw [make_slot]
    exact ⟨e, g, cr.mono (ge_make ok) fun o ho => make_keep hx hd ho⟩
  fld := fun n f k h => by
    rw [make_cont] at h
    obtain ⟨g, cr⟩ := ok.fld n f k h
    rw [make_fld]
    exact ⟨g, cr.mono (ge_make ok) fun o ho => make_keep hx hd ho⟩
  ins := fun n I h => by
    have h' : (c.g.cs ++ [⟨cn, []⟩])[n]? = some I := h
    by_cases hn : n < c.g.cs.length
    · rw [List.getElem?_append_left hn] at h'
      obtain ⟨g, Ca, d, fs, q1, q2, q3⟩ := ok.ins n I h'
      rw [make_adr (by rintro e; cases e; exact Nat.lt_irrefl _ hn)]
      exact ⟨g, Ca, d, fs, q1, make_keep hx hd q2, FR.mono (ge_make ok) (fun f => make_fld) q3⟩
    · rw [List.getElem?_append_right (Nat.le_of_not_lt hn)] at h'
      cases e : n - c.g.cs.length with
      | succ m => rw [e] at h'; simp at h'
      | zero =>
        rw [e] at h'
        cases h'
        have en : n = c.g.cs.length := by omega
        subst en
        rw [make_new]
        exact ⟨ok.free hx, C, dx, [], hm, upd_same, rfl⟩
  inj := fun p q lp lq e => by
    rcases make_live lp with rfl | lp
    · rcases make_live lq with rfl | lq
      · rfl
      · rw [make_new, make_adr (live_ne lq)] at e
        exact absurd e.symm (ok.nlive hx q lq)
    · rcases make_live lq with rfl | lq
      · rw [make_new, make_adr (live_ne lp)] at e
        exact absurd e (ok.nlive hx p lp)
      · rw [make_adr (live_ne lp), make_adr (live_ne lq)] at e
        exact ok.inj p q lp lq e
theorem Step.make (ok : Ok X σ c) (hx : c.H x = none) (hd : c.H dx = none) : Step true c (c.make cn C x dx) where
  G := fun _ _ h => h
  nc := Nat.le_succ _
  ia := (ge_make ok).ia
  trk := fun a h => by
    obtain ⟨o, ho⟩ := Option.ne_none_iff_exists'.mp h
    show upd (upd c.H dx (.own x)) x (.ins C dx []) a ≠ none
    rw [make_keep hx hd ho]; exact (fun z => nomatch z)
  fr := fun a o h _ => ⟨make_keep hx hd h, fun _ => rfl⟩
  live := fun p lp => by
    rcases make_live lp with rfl | lp
    · exact .inr (by rw [make_new]; exact hx)
    · exact .inl ⟨p, lp, make_adr (live_ne lp)⟩
  fkeep := fun n f h => ⟨by obtain ⟨k, hk⟩ := h; exact ⟨k, by rw [make_cont]; exact hk⟩, make_fld⟩
  slots := fun _ i h => ⟨h, make_slot⟩
  ref := fun _ k h => ⟨⟨k, h⟩, make_slot⟩
  lck := fun _ _ _ h => ⟨h, make_slot⟩
  rlen := rfl
end
section
variable {X : Cx} {P : Pg} {W : WX} {es : List Expr} {pos p : PySem.Pos} {k fi : Nat} {f C : Addr} {dd : List D} {x cn : Str} {ts : Ts} {σ : L2.St} {H : Hp} {s : PySem.Shared} {pins : List (Addr × PySem.Obj)}
theorem run_mkAt {fd : PySem.FuncData} {ps : List Str} {ds us : List Value} {dvs vs : List V} {CX : L2.CXT} {sp : L2.Sp} {E : XK} {Q : L2.VK} (M : L2.Mk X.K C f) (F : L2.FnOk X.prog X.w X.K X.mg X.base CX k f fd ps sp) (hr : L2.Room (k + 1) X.A) (hb : L2.Binds X.K fd ps ds) (hd : L2.Vals dvs ds)
    (hx : L2.PassesAt CX X σ E) (I : L2.Inv X pins σ H s) (r : L2.Vals vs us)
    (h : ∀ y dy, H y = none → H dy = none → dy ≠ y → sp (.ref y :: (vs ++ dvs)) (upd (upd H dy (.own y)) y (.ins C dy [])) (fun v H2 => v = .non ∧ Q (.ref y) H2) E) :
    PySem.wpAny (PySem.model X.prog X.w) X.A (PySem.call (.ref C) us) (L2.EP X pins σ Q) X.xe s := by
  have hq := h (s.heap.objs.size + 1) s.heap.objs.size (I.hok.fresh (Nat.le_succ _)) (I.hok.fresh (Nat.le_refl _)) (Nat.ne_of_lt (Nat.lt_succ_self _))
  have J := L2.Inv.made (C := C) I
  have rr : L2.Vals (V.ref (s.heap.objs.size + 1) :: (vs ++ dvs)) (Value.ref (s.heap.objs.size + 1) :: (us ++ ds)) := .cons rfl (r.append hd)
  have hl : (Value.ref (s.heap.objs.size + 1) :: us ++ ds).length = ps.length := (rr.length.symm.trans (F.len _ _ _ _ hq))
  have bnds := hb _ (Value.ref (s.heap.objs.size + 1) :: us) J.kIn hl
  refine PySem.wpAny_call (L2.make_map (f := f) I.kIn M.makes M.init (beq_iff_eq.mp M.fn) (PySem.codeAny_mono (F.run _ X.stack _ _ ⟨Value.ref (s.heap.objs.size + 1) :: us, []⟩ (Value.ref (s.heap.objs.size + 1) :: (us ++ ds)) _ _ E (hr.make C us []) (J.env0.make C us []) bnds rr hq) fun z s' hz => ?_))
  cases z with
  | error e => exact hx pins _ _ e s' J hz
  | ok fl =>
    cases fl with
    | ret u =>
      obtain ⟨v, H', J', rv, ev', q⟩ := J.after hz
      subst ev'
      exact ⟨rv, ⟨V.ref (s.heap.objs.size + 1), H', J', rfl, q⟩⟩
    | next => exact False.elim hz
    | brk => exact False.elim hz
    | cont => exact False.elim hz
theorem r_mk (M : L2.Mk X.K C f) (hg : L2.Gl X x) (hm : X.mg x = some (.ref C)) (hf : P.init x = some fi) (F : Cal X W P.mk1 k fi f dd) (hr : L2.Room (k + 1) X.A) (tk : L2.Takes X W) (hdb : (x == ("__debug__" : Str)) = false) (hs : ∀ y ∈ es, noStar y = true) (hts : es = [] → ts = .nil) (ha : PRf X W es (args P ts)) :
    PEf X W (.Call (.Name x p) es [] pos) (ev P (.mk x ts dd)) := by
  refine ⟨fun pins s σ H Q I h => ?_⟩
  obtain ⟨c0, z, rfl, ok, h, p⟩ := h
  simp only [ev] at h
  let Q1 : List V → Hp → Prop := fun vs H1 => ∀ y dy, H1 y = none → H1 dy = none → dy ≠ y → spF (tx X) F.N F.ps.length (P.mk1.call fi) (.ref y :: (vs ++ F.dvs)) (upd (upd H1 dy (.own y)) y (.ins C dy [])) (fun v H2 => v = .non ∧ Q (.ref y) H2) (L2.WE W σ)
  have h1 : tAr (tx X) W (args P ts) σ c0.H Q1 := by
    refine tM_bnd rr_backs ok h p fun xs vs c1 s1 ok1 ra h1 p1 => ?_
    intro y dy hy hdy hne
    rw [hf] at h1
    simp only at h1
    have ok2 : Ok (tx X) σ (c1.make x C y dy) := ok1.make hm hy hdy hne
    have s2 : Step true c1 (c1.make x C y dy) := Step.make ok1 hy hdy
    cases hc : callM P.mk1 fi (.v (.cell c1.g.cs.length) :: (xs ++ dd.map .v)) { c1.g with cs := c1.g.cs ++ [⟨x, []⟩] } with
    | none => rw [hc] at h1; cases h1
    | some z' =>
      rw [hc] at h1
      have rn : R (tx X) (c1.make x C y dy).S (.cell c1.g.cs.length) (.ref y) := by
        simp only [R]
        exact ⟨by rw [make_new], by show c1.g.cs.length < c1.S.nc + 1; rw [ok1.nc]; exact Nat.lt_succ_self _⟩
      refine F.sp (c := c1.make x C y dy) (xs := .v (.cell c1.g.cs.length) :: xs) (vs := .ref y :: vs) ok2 (fun c0 => ⟨_, vs, rfl, rn, (ra.mono s2).any⟩) hc ⟨?_, ?_⟩
      · intro a ha v c3 hg3 s3 ok3 rr3
        obtain ⟨o, g'⟩ := z'
        have ha' : o = .ok a := ha
        subst ha'
        cases a with
        | val d =>
          cases d with
          | non =>
            cases h1
            have ev' : v = .non := by have := rr3; simpa [RR, R] using this
            subst ev'
            refine ⟨rfl, p1.1 _ rfl (.ref y) c3 hg3 (s2.trans s3) ok3 ?_⟩
            exact R.mono s3.ge _ rn
          | _ => cases h1
        | _ => cases h1
      · intro e he cls dx c3 hg3 s3 ok3 rx
        obtain ⟨o, g'⟩ := z'
        have he' : o = .exc e := he
        subst he'
        cases h1
        exact p1.2 e rfl cls dx c3 hg3 (s2.trans s3) ok3 rx
  refine PySem.wpAny_Call_Name_kw (L2.ld_glob I hg hm ?_ hdb)
  refine with_args (first := []) ha hts hs M.kp I h1 fun us s1 vs H1 I1 rv q => ?_
  exact run_mkAt M F.ok hr F.hb F.hd (L2.passAt tk σ) I1 rv q
end
end Iv
set_option linter.all false
set_option autoImplicit false
set_option maxRecDepth 100000
set_option maxHeartbeats 1000000
/-! Iv16: a container is changed; methods of built-in types. -/
namespace Iv
open PySem (Str Expr Stmt CmpOp Operator BoolOp PyData Addr Value Scope Env Pos)
open L2 (V HO Hp upd upd_same upd_ne ne_of ne_of_none SqL SqT Rd Same WX TE TT TA TS PE PT PA PS PSs PC PW R2 OpR Cx CallR XK)

section
variable {X : Tx} {σ : L2.St} {c c0 : Cfg} {g g' : Sg} {p : Pl} {k : C}
theorem fput_len {f : Str} {s : Sl} : ∀ {fs : List (Str × Sl)} {t : Sl}, fget f fs = some t → (fput f s fs).length = fs.length
  | [], t, h => by cases h
  | (n, u) :: r, t, h => by
    unfold fget at h
    unfold fput
    by_cases e : n = f
    · rw [if_pos e]; rfl
    · rw [if_neg e] at h ⊢
      simp only [List.length_cons, fput_len h]
theorem fget_put {f f' : Str} {s : Sl} : ∀ {fs : List (Str × Sl)} {t : Sl}, fget f fs = some t → fget f' (fput f s fs) = if f' = f then some s else fget f' fs
  | [], t, h => by cases h
  | (n, u) :: r, t, h => by
    unfold fget at h
    unfold fput
    by_cases e : n = f
    · rw [if_pos e]
      unfold fget
      by_cases e2 : n = f'
      · rw [if_pos e2, if_pos (e2.symm.trans e)]
      · rw [if_neg e2, if_neg (fun z => e2 (e.trans z.symm)), if_neg e2]
    · rw [if_neg e] at h ⊢
      unfold fget
      by_cases e2 : n = f'
      · rw [if_pos e2, if_neg (fun z => e (e2.trans z)), if_pos e2]
      · rw [if_neg e2, if_neg e2]
        exact fget_put h
theorem setC_fld {n : Nat} {f : Str} (h : setC g (.fld n f) k = some g') : ∃ I s s', g.cs[n]? = some I ∧ fget f I.fs = some s ∧ s.put k = some s' ∧ g' = { g with cs := g.cs.set n { I with fs := fput f s' I.fs } } := by
  unfold setC at h
  simp only at h
  split at h
  · rename_i I hI
    obtain ⟨s', hs, rfl⟩ := Option.map_eq_some_iff.mp h
    obtain ⟨s, h1, h2⟩ := Option.bind_eq_some_iff.mp hs
    exact ⟨I, s, s', hI, h1, h2, rfl⟩
  · cases h
theorem setC_cont (h : setC g p k = some g') (q : Pl) : cont g' q = if q = p then some k else cont g q := by
  cases p with
  | slot i =>
    obtain ⟨s, s', h1, h2, rfl⟩ := setC_slot h
    have hlt := (List.getElem?_eq_some_iff.mp h1).1
    cases q with
    | slot j =>
      show ((g.rho.set i s')[j]?).bind Sl.cont = _
      by_cases e : j = i
      · subst e
        rw [if_pos rfl, List.getElem?_set_self hlt]
        exact (put_cont h2).1
      · rw [if_neg (by simpa using e), List.getElem?_set_ne (Ne.symm e)]
        rfl
    | fld n f => rw [if_neg (by simp)]; rfl
  | fld n f =>
    obtain ⟨I, s, s', h1, h2, h3, rfl⟩ := setC_fld h
    have hlt := (List.getElem?_eq_some_iff.mp h1).1
    cases q with
    | slot j => rw [if_neg (by simp)]; rfl
    | fld m f' =>
      show ((g.cs.set n _)[m]?).bind _ = _
      by_cases e : m = n
      · subst e
        rw [List.getElem?_set_self hlt]
        show (fget f' (fput f s' I.fs)).bind Sl.cont = _
        rw [fget_put h2]
        by_cases e2 : f' = f
        · subst e2
          rw [if_pos rfl, if_pos rfl]
          exact (put_cont h3).1
        · rw [if_neg e2, if_neg (by simpa using e2)]
          show _ = (g.cs[m]?).bind (fun I => (fget f' I.fs).bind Sl.cont)
          rw [h1]; rfl
      · rw [if_neg (by simp [e]), List.getElem?_set_ne (Ne.symm e)]
        rfl
theorem setC_old (h : setC g p k = some g') : ∃ k0, cont g p = some k0 := by
  cases p with
  | slot i =>
    obtain ⟨s, s', h1, h2, rfl⟩ := setC_slot h
    obtain ⟨_, k0, hk⟩ := put_cont h2
    exact ⟨k0, by show (g.rho[i]?).bind Sl.cont = _; rw [h1]; exact hk⟩
  | fld n f =>
    obtain ⟨I, s, s', h1, h2, h3, rfl⟩ := setC_fld h
    obtain ⟨_, k0, hk⟩ := put_cont h3
    exact ⟨k0, by show (g.cs[n]?).bind (fun I => (fget f I.fs).bind Sl.cont) = _; rw [h1]; show (fget f I.fs).bind Sl.cont = _; rw [h2]; exact hk⟩
theorem setC_len (h : setC g p k = some g') : g'.cs.length = g.cs.length ∧ g'.rho.length = g.rho.length := by
  cases p with
  | slot i => obtain ⟨s, s', h1, h2, rfl⟩ := setC_slot h; exact ⟨rfl, List.length_set⟩
  | fld n f => obtain ⟨I, s, s', h1, h2, h3, rfl⟩ := setC_fld h; exact ⟨List.length_set, rfl⟩
theorem setC_live (h : setC g p k = some g') (q : PlX) : Live g' q ↔ Live g q := by
  have key : ∀ r : Pl, (∃ c, cont g' r = some c) ↔ ∃ c, cont g r = some c := by
    intro r
    rw [setC_cont h r]
    by_cases e : r = p
    · subst e
      rw [if_pos rfl]
      exact ⟨fun _ => setC_old h, fun _ => ⟨k, rfl⟩⟩
    · rw [if_neg e]
  cases q with
  | slot i => exact key (.slot i)
  | fld n f => exact key (.fld n f)
  | ins n => show n < g'.cs.length ↔ n < g.cs.length; rw [(setC_len h).1]
/-- the slots: only a container's own slot differs, and it stays a container of its kind -/
theorem setC_rho (h : setC g p k = some g') (i : Nat) : g'.rho[i]? = g.rho[i]? ∨ (p = .slot i ∧ ((∃ k0, g.rho[i]? = some (.own k0) ∧ g'.rho[i]? = some (.own k)) ∨ ∃ k0, g.rho[i]? = some (.ref k0) ∧ g'.rho[i]? = some (.ref k))) := by
  cases p with
  | fld n f => obtain ⟨I, s, s', h1, h2, h3, rfl⟩ := setC_fld h; exact .inl rfl
  | slot j =>
    obtain ⟨s, s', h1, h2, rfl⟩ := setC_slot h
    have hlt := (List.getElem?_eq_some_iff.mp h1).1
    by_cases e : j = i
    · subst e
      refine .inr ⟨rfl, ?_⟩
      cases s with
      | own k0 => cases h2; exact .inl ⟨k0, h1, List.getElem?_set_self hlt⟩
      | ref k0 => cases h2; exact .inr ⟨k0, h1, List.getElem?_set_self hlt⟩
      | un => cases h2
      | val _ => cases h2
      | lck _ _ => cases h2
    · exact .inl (List.getElem?_set_ne e)
theorem FR.put {S : Gh} {n : Nat} {f : Str} {s s' : Sl} (h2 : s.put k = some s') : ∀ {fs : List (Str × Sl)} {vs : List (Str × V)}, fget f fs = some s → FR X S n fs vs → FR X S n (fput f s' fs) vs
  | [], vs, e, h => by cases e
  | (m, t) :: r, vs, e, ⟨v, q, e1, h1, h3⟩ => by
    unfold fget at e
    unfold fput
    by_cases em : m = f
    · rw [if_pos em] at e ⊢
      cases e
      refine ⟨v, q, e1, ?_, h3⟩
      cases s with
      | own k0 => cases h2; exact h1
      | ref k0 => cases h2; exact h1
      | un => cases h2
      | val _ => cases h2
      | lck _ _ => cases h2
    · rw [if_neg em] at e ⊢
      exact ⟨v, q, e1, h1, FR.put h2 e h3⟩
theorem setC_ins (h : setC g p k = some g') {S : Gh} {n : Nat} {I : Inst} (hI : g'.cs[n]? = some I) : ∃ J, g.cs[n]? = some J ∧ I.c = J.c ∧ ∀ vs, FR X S n J.fs vs → FR X S n I.fs vs := by
  cases p with
  | slot i => obtain ⟨s, s', h1, h2, rfl⟩ := setC_slot h; exact ⟨I, hI, rfl, fun _ h => h⟩
  | fld m f =>
    obtain ⟨J, s, s', h1, h2, h3, rfl⟩ := setC_fld h
    have hlt := (List.getElem?_eq_some_iff.mp h1).1
    have hI' : (g.cs.set m { J with fs := fput f s' J.fs })[n]? = some I := hI
    by_cases e : m = n
    · subst e
      rw [List.getElem?_set_self hlt] at hI'
      cases hI'
      exact ⟨J, h1, rfl, fun vs h => FR.put h3 h2 h⟩
    · rw [List.getElem?_set_ne e] at hI'
      exact ⟨I, hI', rfl, fun _ h => h⟩
/-- the configuration behind a container's change -/
def Cfg.wr (c : Cfg) (g' : Sg) (a : Addr) (o : HO) : Cfg := ⟨g', c.S, upd c.H a o⟩
theorem setC_ok (ok : Ok X σ c) (h : setC c.g p k = some g') {o : HO} (hcr : ∀ H', H' (c.S.adr p.x) = some o → CR X c.S H' (c.S.adr p.x) k) :
    Step true c (c.wr g' (c.S.adr p.x) o) ∧ Ok X σ (c.wr g' (c.S.adr p.x) o) := by
  obtain ⟨k0, hk0⟩ := setC_old h
  have lp := live_at hk0
  have hG := (cont_at ok hk0).1
  have ge : Ge c.S (c.wr g' (c.S.adr p.x) o).S := ⟨fun _ _ h => h, Nat.le_refl _, fun _ _ => rfl⟩
  have ne : ∀ q, Live c.g q → q ≠ p.x → upd c.H (c.S.adr p.x) o (c.S.adr q) = c.H (c.S.adr q) := fun q lq hq => upd_ne fun e => hq (ok.inj q p.x lq lp e)
  have px : ∀ q : Pl, q.x = p.x → q = p := by
    intro q e
    cases q <;> cases p <;> simp [Pl.x] at e <;> simp [e]
  refine ⟨⟨fun _ _ h => h, Nat.le_refl _, fun _ _ => rfl, ?_, ?_, ?_, ?_, ?_, ?_, ?_, (setC_len h).2⟩, ⟨?_, ?_, ?_, ?_, ?_, ?_, ?_, ?_⟩⟩
  · intro a ha
    show upd c.H (c.S.adr p.x) o a ≠ none
    by_cases e : a = c.S.adr p.x
    · subst e; rw [upd_same]; exact fun z => nomatch z
    · rw [upd_ne e]; exact ha
  · intro a u hu hp
    refine ⟨?_, fun _ => rfl⟩
    show upd c.H (c.S.adr p.x) o a = some u
    rw [upd_ne fun e => hp p.x lp e.symm]; exact hu
  · intro q lq
    exact .inl ⟨q, (setC_live h q).mp lq, rfl⟩
  · intro n f lf
    exact ⟨(setC_live h _).mpr lf, rfl⟩
  · intro _ i li
    exact ⟨(setC_live h _).mp li, rfl⟩
  · intro i k1 hi
    refine ⟨?_, rfl⟩
    rcases setC_rho h i with e | ⟨_, ⟨k2, e1, e2⟩ | ⟨k2, e1, e2⟩⟩
    · exact ⟨k1, by show g'.rho[i]? = _; rw [e]; exact hi⟩
    · rw [hi] at e1; cases e1
    · exact ⟨k, e2⟩
  · intro i b k1 hi
    refine ⟨?_, rfl⟩
    rcases setC_rho h i with e | ⟨_, ⟨k2, e1, e2⟩ | ⟨k2, e1, e2⟩⟩
    · show g'.rho[i]? = _; rw [e]; exact hi
    · rw [hi] at e1; cases e1
    · rw [hi] at e1; cases e1
  · intro a u hu
    show upd c.H (c.S.adr p.x) o a = some u
    have hu' : c.S.G a = some u := hu
    rw [upd_ne fun e => by rw [e, hG] at hu'; cases hu']
    exact ok.sub a u hu'
  · exact ok.len.trans (setC_len h).2.symm
  · exact ok.nc.trans (setC_len h).1.symm
  · intro i d hd
    have hd' : g'.rho[i]? = some (.val d) := hd
    rcases setC_rho h i with e | ⟨_, ⟨k2, e1, e2⟩ | ⟨k2, e1, e2⟩⟩
    · exact ok.val i d (by rw [← e]; exact hd')
    · rw [hd'] at e2; cases e2
    · rw [hd'] at e2; cases e2
  · intro i k1 hk
    have hk' : cont g' (.slot i) = some k1 := hk
    rw [setC_cont h] at hk'
    by_cases e : (Pl.slot i) = p
    · subst e
      rw [if_pos rfl] at hk'
      cases hk'
      exact ⟨(ok.own i k0 hk0).1, hG, hcr _ upd_same⟩
    · rw [if_neg e] at hk'
      obtain ⟨q1, q2, q3⟩ := ok.own i k1 hk'
      exact ⟨q1, q2, CR.mono' ge (ne (.slot i) ⟨k1, hk'⟩ fun z => e (px (.slot i) z)) q3⟩
  · intro n f k1 hk
    have hk' : cont g' (.fld n f) = some k1 := hk
    rw [setC_cont h] at hk'
    by_cases e : (Pl.fld n f) = p
    · subst e
      rw [if_pos rfl] at hk'
      cases hk'
      exact ⟨hG, hcr _ upd_same⟩
    · rw [if_neg e] at hk'
      obtain ⟨q2, q3⟩ := ok.fld n f k1 hk'
      exact ⟨q2, CR.mono' ge (ne (.fld n f) ⟨k1, hk'⟩ fun z => e (px (.fld n f) z)) q3⟩
  · intro n I hI
    obtain ⟨J, hJ, ec, fr⟩ := setC_ins (X := X) (S := c.S) h hI
    obtain ⟨q1, Ca, dx, fs, q2, q3, q4⟩ := ok.ins n J hJ
    have ln : Live c.g (.ins n) := (List.getElem?_eq_some_iff.mp hJ).1
    refine ⟨q1, Ca, dx, fs, by rw [ec]; exact q2, (ne (.ins n) ln (by cases p <;> simp [Pl.x])).trans q3, fr _ q4⟩
  · intro q q' lq lq' e
    exact ok.inj q q' ((setC_live h q).mp lq) ((setC_live h q').mp lq') e
end
end Iv
set_option linter.all false
set_option autoImplicit false
set_option maxRecDepth 100000
set_option maxHeartbeats 1000000
/-! Iv17: methods of built-in types, max and min, isinstance, chains, {}. -/
namespace Iv
open PySem (Str Expr Stmt CmpOp Operator BoolOp PyData Addr Value Scope Env Pos)
open L2 (V HO Hp upd upd_same upd_ne ne_of ne_of_none SqL SqT Rd Same WX TE TT TA TS PE PT PA PS PSs PC PW R2 OpR Cx CallR XK)

def rGet2 : V → List V → Hp → L2.VK → Prop := fun x xs H Q => ∃ a y z o, x = .ref a ∧ xs = [y, z] ∧ L2.DGet H a y o ∧ Q (o.getD z) H
theorem mt_get2 {X : Cx} (hu : X.A.units + 1 < PySem.cLine) : L2.MtR X "dict.get" rGet2 := by
  intro pins s σ H x xs v us Q I rx rxs h
  obtain ⟨a, y, z, o, rfl, rfl, g, q⟩ := h
  cases rx
  obtain ⟨u1, u2, rfl, r1, r2⟩ := L2.vals2 rxs
  exact L2.d_get2 hu I g r1 r2 fun w s' I' rw => ⟨_, H, I', rw, q⟩
def mtTy : Mt → String
  | .append => "list" | .pop0 => "list" | .dget => "dict" | .dpop => "dict"
def mtNm : Mt → Str
  | .append => "append" | .pop0 => "pop" | .dget => "get" | .dpop => "pop"
def rMt : Mt → V → List V → Hp → L2.VK → Prop
  | .append => L2.rAppend | .pop0 => L2.rPop | .dget => rGet2 | .dpop => L2.DX.rPopT
theorem pe_mt {X : Cx} {o e : Expr} {es : List Expr} {to : TE} {t : TA} {apos pos : Pos} (m : Mt) (hu : X.A.units + 1 < PySem.cLine) (ho : PE X o to) (ha : PA X (e :: es) t) (hsup : noSup o = true) (hs : ∀ y ∈ e :: es, noStar y = true) (hn : (e :: es).length < 30) (hl : (apos.endLine == pos.line) = true) :
    PE X (.Call (.Attribute o (mtNm m) apos) (e :: es) [] pos) (L2.tBM X.K (mtTy m) (rMt m) to t) := by
  have few : ((PySem.backTo pos (PySem.starEach (e :: es) X.env)).all (fun x => !x.1) && (PySem.backToKw pos (PySem.keywordEach [] X.env)).all (fun x => x.1.isSome) && decide ((e :: es).length + ([] : List PySem.Keyword).length + (if ([] : List PySem.Keyword).isEmpty then 0 else 1) < 30)) = true := by
    rw [noall (noany hs)]
    show (true && true && decide ((e :: es).length + 0 + 0 < 30)) = true
    simpa using hn
  have h1 : PySem.starEach (e :: es) X.env = (false, PySem.eval e X.env) :: PySem.starEach es X.env := star_env (hs e (List.mem_cons_self ..))
  have h2 : (PySem.backTo pos (PySem.starEach es X.env)).any (·.1) = false := noany fun y hy => hs y (List.mem_cons_of_mem _ hy)
  cases m with
  | append => exact L2.pe_bm PySem.F.plainAttrs_list PySem.F.slot_list_append PySem.F.type_list_append L2.mt_append ho ha (nosup_ok hsup) few hl h1 h2
  | pop0 => exact L2.pe_bm PySem.F.plainAttrs_list PySem.F.slot_list_pop PySem.F.type_list_pop L2.mt_pop ho ha (nosup_ok hsup) few hl h1 h2
  | dget => exact L2.pe_bm PySem.F.plainAttrs_dict PySem.F.slot_dict_get PySem.F.type_dict_get (mt_get2 hu) ho ha (nosup_ok hsup) few hl h1 h2
  | dpop => exact L2.pe_bm PySem.F.plainAttrs_dict PySem.F.slot_dict_pop PySem.F.type_dict_pop (L2.DX.mt_popT hu) ho ha (nosup_ok hsup) few hl h1 h2

section
variable {T : Tx} {W : WX} {σ : L2.St} {c c0 : Cfg} {x : Res} {v : V} {ds : List D} {vs : List V} {Q : V → Hp → Prop}
theorem chkM_ok (ok : Ok T σ c) {m : Mt} {z : Out Unit × Sg} (h : chkM m x c.g = some z) (rr : RR T c0 c x v) : z = (.ok (), c.g) ∧ (∃ p, x = .brw p) ∧ L2.tyV T.K (mtTy m) v c.H := by
  unfold chkM at h
  obtain ⟨u, hu, rfl⟩ := liftO_some h
  refine ⟨rfl, ?_⟩
  split at hu
  case h_2 => cases hu
  rename_i p
  refine ⟨⟨p, rfl⟩, ?_⟩
  split at hu
  · rename_i d hc
    rw [rr.1 (live_at hc)]
    obtain ⟨_, xs, hx, _⟩ := cont_at ok hc
    exact .inl ⟨rfl, xs, SqL.of hx⟩
  · rename_i d hc
    rw [rr.1 (live_at hc)]
    obtain ⟨_, xs, hx, _⟩ := cont_at ok hc
    exact .inl ⟨rfl, xs, SqL.of hx⟩
  · rename_i d hc
    rw [rr.1 (live_at hc)]
    obtain ⟨_, xs, hx, _⟩ := cont_at ok hc
    exact .inr (.inr (.inl ⟨rfl, .inl ⟨xs, hx⟩⟩))
  · rename_i d hc
    rw [rr.1 (live_at hc)]
    obtain ⟨_, xs, hx, _⟩ := cont_at ok hc
    exact .inr (.inr (.inl ⟨rfl, .inr ⟨xs, hx⟩⟩))
  · rename_i d hc
    rw [rr.1 (live_at hc)]
    obtain ⟨_, xs, hx, _⟩ := cont_at ok hc
    exact .inr (.inr (.inl ⟨rfl, .inr ⟨xs, hx⟩⟩))
  · cases hu
theorem upd_id {H : Hp} {a : Addr} {o : HO} (h : H a = some o) : upd H a o = H := by
  funext b
  unfold upd
  split
  · rename_i e; rw [e]; exact h.symm
  · rfl
theorem R.look {κ : Type} [DecidableEq κ] {S : Gh} {k : κ} {kvs : List (κ × D)} {xs : List (κ × V)} {e : D} {w : V} (h : KR T S kvs xs) (he : R T S e w) : R T S ((Iv.look k kvs).getD e) ((L2.valV xs k).getD w) := by
  rcases KR.look k h with ⟨a, b⟩ | ⟨d, u, a, b, r⟩
  · rw [a, b]; exact he
  · rw [a, b]; exact r
theorem delK_none {κ : Type} [DecidableEq κ] {α : Type} {k : κ} : ∀ {kvs : List (κ × α)}, ((kvs.find? fun kv => decide (kv.1 = k)).map (·.2)) = none → kvs.filter (fun kv => decide (kv.1 ≠ k)) = kvs
  | [], _ => rfl
  | p :: r, h => by
    by_cases e : p.1 = k
    · simp [List.find?_cons, e] at h
    · rw [List.filter_cons_of_pos (by simpa using e), delK_none (kvs := r)]
      have hd : decide (p.1 = k) = false := decide_eq_false e
      rw [List.find?_cons, hd] at h
      exact h
theorem methD_ok (ok : Ok T σ c) {m : Mt} {r : Res} {g' : Sg} (rr : RR T c0 c x v) (rl : RL T c.S ds vs) (h : methD m x ds c.g = some (r, g')) (p : Post T W σ (RR T) c (.ok r, g') Q) : rMt m v vs c.H Q := by
  unfold methD at h
  split at h
  case h_2 => cases h
  rename_i pl
  split at h
  · -- append
    rename_i d dl hc
    split at h
    case isFalse => cases h
    rename_i hlen
    obtain ⟨g2, hg, e⟩ := Option.map_eq_some_iff.mp h
    cases e
    obtain ⟨_, xs, hx, kr⟩ := cont_at ok hc
    simp only [RL] at rl
    obtain ⟨w, q, rfl, rw1, rfl⟩ := rl
    rw [rr.1 (live_at hc)]
    refine ⟨_, xs, w, rfl, rfl, hx, by rw [kr.length]; exact lt_line hlen, ?_⟩
    have hl1 : RL T c.S (dl ++ [d]) (xs ++ [w]) := kr.append (by simp only [RL]; exact ⟨w, [], rfl, rw1, rfl⟩)
    obtain ⟨st, ok'⟩ := setC_ok ok hg (o := .lst (xs ++ [w])) fun H' hh => ⟨_, hh, hl1⟩
    exact p.1 _ rfl .non _ rfl st ok' (by simp [RR, R])
  · -- pop
    rename_i dl hc
    split at h
    case h_2 => cases h
    rename_i d hd
    obtain ⟨g2, hg, e⟩ := Option.map_eq_some_iff.mp h
    cases e
    obtain ⟨_, xs, hx, kr⟩ := cont_at ok hc
    simp only [RL] at rl
    subst rl
    rw [rr.1 (live_at hc)]
    rw [List.getLast?_eq_getElem?] at hd
    obtain ⟨w, hw, rw1⟩ := kr.get hd
    refine ⟨_, xs, w, rfl, rfl, hx, by rw [kr.length]; exact hw, ?_⟩
    have hl1 : RL T c.S dl.dropLast xs.dropLast := by
      rw [List.dropLast_eq_take, List.dropLast_eq_take, kr.length]
      exact kr.take _
    obtain ⟨st, ok'⟩ := setC_ok ok hg (o := .lst xs.dropLast) fun H' hh => ⟨_, hh, hl1⟩
    exact p.1 _ rfl w _ rfl st ok' rw1
  · -- get, plain keys
    rename_i k e kvs hc
    obtain ⟨kk, hk, e2⟩ := Option.map_eq_some_iff.mp h
    cases e2
    obtain ⟨_, xs, hx, kr⟩ := cont_at ok hc
    simp only [RL] at rl
    obtain ⟨w1, q, rfl, r1, w2, q2, rfl, r2, rfl⟩ := rl
    rw [rr.1 (live_at hc)]
    exact ⟨_, w1, w2, _, rfl, rfl, inD_key (R.top ok r1) hk hx, p.fin ok (R.look kr r2)⟩
  · -- get, tuples
    rename_i ks e kvs hc
    obtain ⟨kk, hk, e2⟩ := Option.map_eq_some_iff.mp h
    cases e2
    obtain ⟨_, xs, hx, kr⟩ := cont_at ok hc
    simp only [RL] at rl
    obtain ⟨w1, q, rfl, r1, w2, q2, rfl, r2, rfl⟩ := rl
    rw [rr.1 (live_at hc)]
    exact ⟨_, w1, w2, _, rfl, rfl, inD_keys ok (R.top ok r1) hk hx, p.fin ok (R.look kr r2)⟩
  · -- pop, tuples
    rename_i ks e kvs hc
    obtain ⟨kk, hk, h2⟩ := Option.bind_eq_some_iff.mp h
    obtain ⟨g2, hg, e2⟩ := Option.map_eq_some_iff.mp h2
    cases e2
    obtain ⟨_, xs, hx, kr⟩ := cont_at ok hc
    simp only [RL] at rl
    obtain ⟨w1, q, rfl, r1, w2, q2, rfl, r2, rfl⟩ := rl
    rw [rr.1 (live_at hc)]
    obtain ⟨b, ys, rfl, g, hy, ry⟩ := top_tup ok (R.top ok r1)
    have z := keys_ok ry hk
    subst z
    obtain ⟨st, ok'⟩ := setC_ok ok hg (o := .dT (L2.dropK xs kk)) fun H' hh => ⟨_, hh, KR.del kk kr⟩
    have res := p.1 _ rfl ((L2.valV xs kk).getD w2) _ rfl st ok' (R.look (S := c.S) kr r2)
    refine ⟨_, xs, kk, b, w2, rfl, rfl, hx, hy, fun u hu => ?_, fun hu => ?_⟩
    · rw [hu] at res; exact res
    · rw [hu] at res
      have e3 : L2.dropK xs kk = xs := delK_none hu
      have res' : Q w2 (upd c.H (c.S.adr pl.x) (.dT (L2.dropK xs kk))) := res
      rw [e3, upd_id hx] at res'
      exact res'
  · cases h
end
section
variable {X : Cx} {P : Pg} {W : WX} {o : Expr} {es : List Expr} {pos p apos : PySem.Pos} {ts : Ts} {to ta tb tc : T}
theorem r_meth (m : Mt) (hu : X.A.units + 1 < PySem.cLine) (ho : PEf X W o (ev P to)) (hsup : noSup o = true) (hs : ∀ y ∈ es, noStar y = true) (hn : es.length < 30) (hl : (apos.endLine == pos.line) = true) (hes : es = [] → m = .pop0 ∧ ts = .nil) (ha : PAf X W es (evs P ts)) :
    PEf X W (.Call (.Attribute o (mtNm m) apos) es [] pos) (ev P (.meth m to ts)) := by
  have core : ∀ σ H Q, tE (tx X) W (ev P (.meth m to ts)) σ H Q → L2.tBM X.K (mtTy m) (rMt m) (tE (tx X) W (ev P to)) (tDs (tx X) W (evs P ts)) σ H Q := by
    rintro σ H Q ⟨c, z, rfl, ok, h, p⟩
    simp only [ev] at h
    refine tM_bnd rr_backs ok h p fun x v1 c1 s1 ok1 rr1 h1 p1 => ?_
    cases hk : chkM m x c1.g with
    | none => rw [bnd_none hk] at h1; cases h1
    | some y =>
      obtain ⟨rfl, ⟨pl, rfl⟩, ty⟩ := chkM_ok ok1 hk rr1
      rw [bnd_ok hk] at h1
      refine ⟨ty, ?_⟩
      refine tM_bnd rr_backs ok1 h1 p1 fun ds vs c2 s2 ok2 rl h2 p2 => ?_
      cases hm : methD m (.brw pl) ds c2.g with
      | none => rw [hm] at h2; cases h2
      | some y =>
        obtain ⟨r, g'⟩ := y
        rw [hm] at h2
        cases h2
        exact methD_ok ok2 (rr1.mono s2) rl hm p2
  cases es with
  | cons e es => exact PE.imp (pe_mt m hu ho ha hsup hs hn hl) core
  | nil =>
    obtain ⟨rfl, rfl⟩ := hes rfl
    refine PE.imp (L2.pe_bm0 PySem.F.plainAttrs_list PySem.F.slot_list_pop PySem.F.type_list_pop L2.mt_pop ho (nosup_ok hsup) hl) ?_
    intro σ H Q h
    have h2 := core σ H Q h
    obtain ⟨c, z, rfl, ok, h3, p3⟩ := h2
    refine ⟨c, z, rfl, ok, h3, fun a ha v c' hg st ok' rel => ?_, p3.2⟩
    obtain ⟨ty, h4⟩ := p3.1 a ha v c' hg st ok' rel
    refine ⟨ty, ?_⟩
    obtain ⟨c5, z5, e5, ok5, h5, p5⟩ := h4
    simp only [evs] at h5
    cases h5
    have q := p5.fin ok5 (show RDs (tx X) c5 c5 [] [] by simp [RDs, RL])
    rw [e5] at q
    exact q
theorem r_dict0 {b : Bool} : PEf X W (.Dict [] [] pos) (ev P (.dict0 b)) := by
  cases b with
  | true =>
    refine PE.imp L2.pe_dnewT ?_
    rintro σ H Q ⟨c, z, rfl, ok, h, p⟩
    simp only [ev] at h
    cases h
    intro a ha
    exact p.1 _ rfl (.ref a) (c.put a (.dT [])) rfl (Step.put ha) (ok.put ha) ⟨a, rfl, ok.free ha, ⟨[], upd_same, rfl⟩, ok.nlive ha, .inl ha⟩
  | false =>
    refine PE.imp L2.pe_dnewK ?_
    rintro σ H Q ⟨c, z, rfl, ok, h, p⟩
    simp only [ev] at h
    cases h
    intro a ha
    exact p.1 _ rfl (.ref a) (c.put a (.dK [])) rfl (Step.put ha) (ok.put ha) ⟨a, rfl, ok.free ha, ⟨[], upd_same, rfl⟩, ok.nlive ha, .inl ha⟩
def b2Nm : B2 → Str
  | .max => "max" | .min => "min"
theorem r_b2 {a b : Expr} (f : B2) (hc : X.calm = true) (hg : L2.Gl X (b2Nm f)) (hm : X.mg (b2Nm f) = none) (hsa : noStar a = true) (hsb : noStar b = true) (ha : PEf X W a (ev P ta)) (hb : PEf X W b (ev P tb)) : PEf X W (.Call (.Name (b2Nm f) p) [a, b] [] pos) (ev P (.b2 f ta tb)) := by
  have hs : ∀ y ∈ [a, b], noStar y = true := by
    intro y hy
    rcases List.mem_cons.mp hy with rfl | hy
    · exact hsa
    · rcases List.mem_cons.mp hy with rfl | hy
      · exact hsb
      · exact absurd hy (by simp)
  have h1 : PySem.starEach [a, b] X.env = (false, PySem.eval a X.env) :: PySem.starEach [b] X.env := star_env hsa
  have h2 : (PySem.backTo pos (PySem.starEach [b] X.env)).any (·.1) = false := noany fun y hy => hs y (List.mem_cons_of_mem _ hy)
  have hes : PA X [a, b] (L2.tCons (tE (tx X) W (ev P ta)) (L2.tCons (tE (tx X) W (ev P tb)) L2.tNil)) := L2.pa_cons ha (L2.pa_cons hb L2.pa_nil (star_env hsb)) h1
  cases f with
  | max =>
    refine PE.imp (L2.pe_callB (L2.call_max2 hc) hg hm (by decide +kernel) hes (by decide) (by decide) h1 h2) ?_
    rintro σ H Q ⟨c, z, rfl, ok, h, p⟩
    simp only [ev] at h
    refine tM_bnd rr_backs ok h p fun x v1 c1 s1 ok1 rr1 h1 p1 => ?_
    refine tM_bnd rr_backs ok1 h1 p1 fun y v2 c2 s2 ok2 rr2 h2 p2 => ?_
    obtain ⟨r, hr, rfl⟩ := liftO_some h2
    split at hr
    · rename_i d e hd he
      have t1 := view_ok ok2 (rr1.mono s2) hd
      have t2 := view_ok ok2 rr2 he
      unfold b2D at hr
      split at hr
      · cases hr; exact ⟨_, _, by rw [top_int t1, top_int t2], p2.read ok2 (r_int _)⟩
      · rename_i hq; cases hq
      · cases hr
    · cases hr
  | min =>
    refine PE.imp (L2.pe_callB (L2.call_min2 hc) hg hm (by decide +kernel) hes (by decide) (by decide) h1 h2) ?_
    rintro σ H Q ⟨c, z, rfl, ok, h, p⟩
    simp only [ev] at h
    refine tM_bnd rr_backs ok h p fun x v1 c1 s1 ok1 rr1 h1 p1 => ?_
    refine tM_bnd rr_backs ok1 h1 p1 fun y v2 c2 s2 ok2 rr2 h2 p2 => ?_
    obtain ⟨r, hr, rfl⟩ := liftO_some h2
    split at hr
    · rename_i d e hd he
      have t1 := view_ok ok2 (rr1.mono s2) hd
      have t2 := view_ok ok2 rr2 he
      unfold b2D at hr
      split at hr
      · rename_i hq; cases hq
      · cases hr; exact ⟨_, _, by rw [top_int t1, top_int t2], p2.read ok2 (r_int _)⟩
      · cases hr
    · cases hr
/-! ### isinstance -/
def tyN : Ty → String
  | .int => "int" | .bool => "bool" | .str => "str" | .list => "list" | .tuple => "tuple" | .own _ => ""
def tyS : Ty → Str
  | .int => "int" | .bool => "bool" | .str => "str" | .list => "list" | .tuple => "tuple" | .own _ => ""
def builtTy : Ty → Bool
  | .own _ => false
  | _ => true
def dTy : D → String
  | .non => "NoneType" | .bl _ => "bool" | .int _ => "int" | .str _ => "str" | .lst _ => "list" | .tup _ => "tuple" | _ => ""
theorem ty_of {T : Tx} {σ : L2.St} {c : Cfg} {d : D} {v : V} (ok : Ok T σ c) (h : Top T c d v) (hn : noInst d = true) : L2.TyX T.K c.H v (.type (dTy d)) := by
  cases d with
  | non => rw [top_non h]; exact .base .non
  | bl b => rw [top_bl h]; exact .base (.bl b)
  | int i => rw [top_int h]; exact .base (.int i)
  | str x => rw [top_str h]; exact .base (.str x)
  | lst ds => obtain ⟨a, xs, rfl, hx, _⟩ := top_lst h; exact .base (.lst hx)
  | tup ds => obtain ⟨a, xs, rfl, _, hx, _⟩ := top_tup ok h; exact .base (.tup hx)
  | obj _ _ _ => cases hn
  | cell _ => cases hn
  | scr _ => cases hn
theorem isTy_kit {K : PySem.W.Frag} {d : D} {t : Ty} {b : Bool} (h : isTy d t = some b) (hb : builtTy t = true) : noInst d = true ∧ PySem.W.kitOne K (.type (dTy d)) (.type (tyN t)) = some b := by
  cases t <;> cases d <;> first
    | (cases hb; done)
    | (cases h; done)
    | (cases h; exact ⟨rfl, L2.kit_ty (by dsimp only [dTy, tyN]; decide +kernel)⟩)
theorem r_isi {a : Expr} {t : Ty} {p2 : Pos} (hb : builtTy t = true) (hg : L2.Gl X "isinstance") (hm : X.mg "isinstance" = none) (hgt : L2.Gl X (tyS t)) (hmt : X.mg (tyS t) = none) (hsa : noStar a = true) (ha : PEf X W a (ev P ta)) :
    PEf X W (.Call (.Name "isinstance" p) [a, .Name (tyS t) p2] [] pos) (ev P (.isi ta [t])) := by
  have hs : ∀ y ∈ [a, Expr.Name (tyS t) p2], noStar y = true := by
    intro y hy
    rcases List.mem_cons.mp hy with rfl | hy
    · exact hsa
    · rcases List.mem_cons.mp hy with rfl | hy
      · rfl
      · exact absurd hy (by simp)
  have hbt : PE X (.Name (tyS t) p2) (L2.tC (.ty (tyN t))) := by
    cases t with
    | own _ => cases hb
    | _ => exact L2.pe_bltn hgt hmt (u := .type _) (by decide +kernel) rfl
  have h1 : PySem.starEach [a, .Name (tyS t) p2] X.env = (false, PySem.eval a X.env) :: PySem.starEach [.Name (tyS t) p2] X.env := star_env hsa
  have hes : PA X [a, .Name (tyS t) p2] (L2.tCons (tE (tx X) W (ev P ta)) (L2.tCons (L2.tC (.ty (tyN t))) L2.tNil)) := L2.pa_cons ha (L2.pa_cons hbt L2.pa_nil) h1
  refine PE.imp (L2.pe_callB L2.call_isi hg hm PyProof.Rows.boot_isinstance hes (by decide) (by decide) h1 rfl) ?_
  rintro σ H Q ⟨c, z, rfl, ok, h, p⟩
  simp only [ev] at h
  refine tM_bnd rr_backs ok h p fun x v1 c1 s1 ok1 rr1 h1 p1 => ?_
  obtain ⟨r, hr, rfl⟩ := liftO_some h1
  split at hr
  case h_2 => cases hr
  rename_i d hd
  obtain ⟨b, hb2, rfl⟩ := Option.map_eq_some_iff.mp hr
  have t1 := view_ok ok1 rr1 hd
  have hq : isTy d t = some b := by
    simp only [List.foldr] at hb2
    split at hb2
    · rename_i b1 b2 e1 e2
      cases e2
      cases hb2
      rw [e1, Bool.or_false]
    · cases hb2
  obtain ⟨hn, hk⟩ := isTy_kit (K := X.K) hq hb
  exact ⟨v1, .ty (tyN t), _, _, b, rfl, .ty _, ty_of ok1 t1 hn, hk, p1.read ok1 (r_bl _)⟩
/-! ### a op b op c -/
theorem r_chain {a b c : Expr} {op op' : CmpOp} (hu : X.A.units + 65 < PySem.cLine) (hm : PySem.lastMarks [op, op'] [b, c] = false) (ha : PEf X W a (ev P ta)) (hb : PEf X W b (ev P tb)) (hc : PEf X W c (ev P tc)) : PEf X W (.Compare a [op, op'] [b, c] pos) (ev P (.chain op op' ta tb tc)) := by
  refine PE.imp (L2.pe_chain (op_cmp hu op) (op_cmp hu op') ha hb hc hm) ?_
  rintro σ H Q ⟨c, z, rfl, ok, h, p⟩
  simp only [ev] at h
  refine tM_bnd rr_backs ok h p fun x v1 c1 s1 ok1 rr1 h1 p1 => ?_
  refine tM_bnd rr_backs ok1 h1 p1 fun y v2 c2 s2 ok2 rr2 h2 p2 => ?_
  cases hl : liftO (cmpR op x y) c2.g with
  | none => rw [bnd_none hl] at h2; cases h2
  | some w =>
    have hl2 := hl
    obtain ⟨t, ht, rfl⟩ := liftO_some hl2
    rw [bnd_ok hl] at h2
    refine cmpR_ok (c0 := c) ok2 (rr1.mono s2) (rr2.back s1) ht ⟨t, rfl, ?_⟩
    cases t with
    | false =>
      cases h2
      exact L2.iteF (p2.read ok2 (r_bl _))
    | true =>
      refine L2.iteT ?_
      refine tM_bnd rr_backs ok2 h2 p2 fun w v3 c3 s3 ok3 rr3 h3 p3 => ?_
      obtain ⟨r, hr, rfl⟩ := liftO_some h3
      obtain ⟨b', hb', rfl⟩ := Option.map_eq_some_iff.mp hr
      exact cmpR_ok (c0 := c1) ok3 (rr2.mono s3) (rr3.back s2) hb' (p3.read ok3 (r_bl _))
end
end Iv
set_option linter.all false
set_option autoImplicit false
set_option maxRecDepth 100000
set_option maxHeartbeats 1000000
/-! Iv18: statements. -/
namespace Iv
open PySem (Str Expr Stmt CmpOp Operator BoolOp PyData Addr Value Scope Env Pos)
open L2 (V HO Hp upd upd_same upd_ne ne_of ne_of_none SqL SqT Rd Same WX TE TT TA TS TG TGs PE PT PA PS PSs PC PW PG PGs R2 OpR Cx CallR XK Ends)

section
variable (X : Tx) (W : WX)
def PostXS (c0 : Cfg) (r : Out Flow × Sg) : Prop :=
  ∀ x, r.1 = .exc x → ∀ cls dx σ' c, c.g = r.2 → Step false c0 c → Ok X σ' c → RX X c x cls dx → W cls dx σ' c.H
def flowQ (c0 : Cfg) (D : Ends) : Flow → L2.St → Cfg → Prop
  | .next, σ', c => D.nx σ' c.H
  | .brk, σ', c => D.bk σ' c.H
  | .cnt, σ', c => D.ct σ' c.H
  | .ret a, _, c => notBrw a = true ∧ ∀ v, RR X c0 c a v → D.rt v c.H
def PostS (c0 : Cfg) (r : Out Flow × Sg) (D : Ends) : Prop :=
  (∀ fl, r.1 = .ok fl → ∀ σ' c, c.g = r.2 → Step false c0 c → Ok X σ' c → flowQ X c0 D fl σ' c) ∧ PostXS X W c0 r
def tSt (f : M Flow) : TS := fun D σ H => ∃ c r, c.H = H ∧ Ok X σ c ∧ f c.g = some r ∧ PostS X W c r D
end
section
variable {α β : Type} {X : Tx} {W : WX} {σ : L2.St} {Rel : Cfg → Cfg → α → β → Prop} {c c0 c1 : Cfg} {r : Out Flow × Sg} {D : Ends}
theorem flowQ.shift (s : Step false c0 c1) {c : Cfg} : ∀ {fl : Flow} {σ' : L2.St}, flowQ X c0 D fl σ' c → flowQ X c1 D fl σ' c
  | .next, _, h => h
  | .brk, _, h => h
  | .cnt, _, h => h
  | .ret a, _, ⟨n, h⟩ => ⟨n, fun v rr => h v (rr.back s)⟩
theorem PostXS.shift (s : Step false c0 c1) (h : PostXS X W c0 r) : PostXS X W c1 r := fun x hx cls dx σ' c hg st ok rx => h x hx cls dx σ' c hg (s.trans st) ok rx
theorem PostS.shift (s : Step false c0 c1) (h : PostS X W c0 r D) : PostS X W c1 r D :=
  ⟨fun fl hf σ' c hg st ok => (h.1 fl hf σ' c hg (s.trans st) ok).shift s, h.2.shift s⟩
/-- an expression, then the rest of a statement -/
theorem tM_bndS {m : M α} {k : α → M Flow} {Q1 : β → Hp → Prop} (ok : Ok X σ c) (h : bnd m k c.g = some r) (p : PostXS X W c r)
    (hk : ∀ a v c1, Step true c c1 → Ok X σ c1 → Rel c c1 a v → k a c1.g = some r → Q1 v c1.H) : tM X W Rel m σ c.H Q1 := by
  cases hm : m c.g with
  | none => rw [bnd_none hm] at h; cases h
  | some z =>
    obtain ⟨o, g1⟩ := z
    refine ⟨c, (o, g1), rfl, ok, hm, ?_, ?_⟩
    · rintro a ha v c1 hg st ok1 rel
      subst ha
      have hg' : c1.g = g1 := hg
      subst hg'
      rw [bnd_ok hm] at h
      exact hk a v c1 st ok1 rel h
    · rintro x hx cls dx c1 hg st ok1 rx
      subst hx
      rw [bnd_exc hm] at h
      cases h
      exact p x rfl cls dx σ c1 hg st.weak ok1 rx
theorem doS_some {f : Sg → Option Sg} {g : Sg} (h : doS f g = some r) : ∃ g', f g = some g' ∧ r = (.ok .next, g') := by
  unfold doS at h
  split at h
  · rename_i g' e; cases h; exact ⟨g', e, rfl⟩
  · cases h
end
section
variable {X : Cx} {P : Pg} {W : WX} {st : Stmt} {rest : List Stmt} {e : Expr} {pos : Pos}
abbrev PSf (X : Cx) (W : WX) (st : Stmt) (f : M Flow) : Prop := PS X st (tSt (tx X) W f)
abbrev PSsf (X : Cx) (W : WX) (st : List Stmt) (f : M Flow) : Prop := PSs X st (tSt (tx X) W f)
theorem PS.imp {t t' : TS} (h : PS X st t) (i : ∀ D σ H, t' D σ H → t D σ H) : PS X st t' := ⟨fun pins s σ H D I hw => h.run pins s σ H D I (i D σ H hw)⟩
theorem PSs.imp {t t' : TS} (h : PSs X rest t) (i : ∀ D σ H, t' D σ H → t D σ H) : PSs X rest t' := ⟨fun pins s σ H D I hw => h.run pins s σ H D I (i D σ H hw)⟩
theorem rs_nil : PSsf X W [] (exs P .nil) := by
  refine PSs.imp L2.pss_nil ?_
  rintro D σ H ⟨c, r, rfl, ok, h, p⟩
  simp only [exs] at h
  cases h
  exact p.1 .next rfl σ c rfl Step.refl ok
theorem seq_ok {D : Ends} {σ : L2.St} {H : Hp} {a : M Flow} {b : M Flow} (h : tSt (tx X) W (bnd a fun fl => match fl with | .next => b | fl => ret fl) D σ H) : L2.tSeq (tSt (tx X) W a) (tSt (tx X) W b) D σ H := by
  obtain ⟨c, r, rfl, ok, h, p⟩ := h
  cases hm : a c.g with
  | none => rw [bnd_none hm] at h; cases h
  | some z =>
    obtain ⟨o, g1⟩ := z
    cases o with
    | exc x =>
      rw [bnd_exc hm] at h
      cases h
      exact ⟨c, (.exc x, g1), rfl, ok, hm, ⟨fun fl hf => (nomatch hf), p.2⟩⟩
    | ok fl =>
      rw [bnd_ok hm] at h
      refine ⟨c, (.ok fl, g1), rfl, ok, hm, ⟨fun fl' hf σ' c1 hg st1 ok1 => ?_, fun x hx => (nomatch hx)⟩⟩
      cases hf
      have hg' : c1.g = g1 := hg
      subst hg'
      cases fl with
      | next => exact ⟨c1, r, rfl, ok1, h, p.shift st1⟩
      | brk => cases h; exact p.1 _ rfl σ' c1 rfl st1 ok1
      | cnt => cases h; exact p.1 _ rfl σ' c1 rfl st1 ok1
      | ret a => cases h; exact p.1 _ rfl σ' c1 rfl st1 ok1
theorem rs_cons {s : S} {ss : Ss} (h1 : PSf X W st (ex P s)) (h2 : PSsf X W rest (exs P ss)) : PSsf X W (st :: rest) (exs P (.cons s ss)) := by
  refine PSs.imp (L2.pss_cons h1 h2) fun D σ H h => seq_ok ?_
  rw [exs] at h
  exact h
theorem rs_pass : PSf X W (.Pass pos) (ex P .pass) := by
  refine PS.imp L2.ps_pass ?_
  rintro D σ H ⟨c, r, rfl, ok, h, p⟩
  simp only [ex] at h
  cases h
  exact p.1 .next rfl σ c rfl Step.refl ok
theorem rs_brk : PSf X W (.Break pos) (ex P .brk) := by
  refine PS.imp L2.ps_break ?_
  rintro D σ H ⟨c, r, rfl, ok, h, p⟩
  simp only [ex] at h
  cases h
  exact p.1 .brk rfl σ c rfl Step.refl ok
theorem rs_cnt : PSf X W (.Continue pos) (ex P .cnt) := by
  refine PS.imp L2.ps_continue ?_
  rintro D σ H ⟨c, r, rfl, ok, h, p⟩
  simp only [ex] at h
  cases h
  exact p.1 .cnt rfl σ c rfl Step.refl ok
theorem rs_retN : PSf X W (.Return none pos) (ex P .retN) := by
  refine PS.imp L2.ps_retN ?_
  rintro D σ H ⟨c, r, rfl, ok, h, p⟩
  simp only [ex] at h
  cases h
  exact (p.1 _ rfl σ c rfl Step.refl ok).2 .non (by simp [RR, R])
theorem rs_ret {t : T} (ht : PEf X W e (ev P t)) : PSf X W (.Return (some e) pos) (ex P (.ret t)) := by
  refine PS.imp (L2.ps_ret ht) ?_
  rintro D σ H ⟨c, r, rfl, ok, h, p⟩
  simp only [ex] at h
  refine tM_bndS ok h p.2 fun a v c1 s1 ok1 rr1 h1 => ?_
  cases a with
  | brw _ => cases h1
  | val d => cases h1; exact (p.1 _ rfl σ c1 rfl s1.weak ok1).2 v rr1
  | fresh k => cases h1; exact (p.1 _ rfl σ c1 rfl s1.weak ok1).2 v rr1
theorem rs_expr {t : T} (ht : PEf X W e (ev P t)) (hs : PySem.swapsWith e none pos.line X.env = pure false) : PSf X W (.Expr e pos) (ex P (.expr t)) := by
  refine PS.imp (L2.ps_expr ht hs) ?_
  rintro D σ H ⟨c, r, rfl, ok, h, p⟩
  simp only [ex] at h
  refine tM_bndS ok h p.2 fun a v c1 s1 ok1 rr1 h1 => ?_
  cases h1
  exact p.1 _ rfl σ c1 rfl s1.weak ok1
theorem rs_ite {ec : Expr} {a b : List Stmt} {t : T} {sa sb : Ss} (hc : PTf X W ec (tst P t)) (ha : PSsf X W a (exs P sa)) (hb : PSsf X W b (exs P sb)) : PSf X W (.If ec a b pos) (ex P (.ite t sa sb)) := by
  refine PS.imp (L2.ps_if hc ha hb) ?_
  rintro D σ H ⟨c, r, rfl, ok, h, p⟩
  simp only [ex] at h
  refine tM_bndS ok h p.2 fun a v c1 s1 ok1 rr1 h1 => ?_
  cases rr1
  cases a with
  | true => exact L2.iteT ⟨c1, r, rfl, ok1, h1, p.shift s1.weak⟩
  | false => exact L2.iteF ⟨c1, r, rfl, ok1, h1, p.shift s1.weak⟩
end
end Iv
set_option linter.all false
set_option autoImplicit false
set_option maxRecDepth 100000
set_option maxHeartbeats 1000000
/-! Iv19: targets, assignments. -/
namespace Iv
open PySem (Str Expr Stmt CmpOp Operator BoolOp PyData Addr Value Scope Env Pos)
open L2 (V HO Hp upd upd_same upd_ne ne_of ne_of_none SqL SqT Rd Same WX TE TT TA TS TG TGs PE PT PA PS PSs PC PW PG PGs R2 OpR Cx CallR XK Ends)

section
variable {X : Tx} {σ : L2.St} {c c0 c1 : Cfg} {g' : Sg} {i : Nat}
theorem setSl_some {g g' : Sg} {s : Sl} (h : setSl g i s = some g') : ∃ t, g.rho[i]? = some t ∧ isRef t = false ∧ g' = { g with rho := g.rho.set i s } := by
  unfold setSl at h
  split at h
  · rename_i t ht
    split at h
    · cases h
    · rename_i hr
      cases h
      exact ⟨t, ht, by simpa using hr, rfl⟩
  · cases h
theorem set_rho {g : Sg} {s : Sl} {t : Sl} (ht : g.rho[i]? = some t) (j : Nat) : (g.rho.set i s)[j]? = if j = i then some s else g.rho[j]? := by
  have hlt := (List.getElem?_eq_some_iff.mp ht).1
  by_cases e : j = i
  · subst e; rw [if_pos rfl]; exact List.getElem?_set_self hlt
  · rw [if_neg e]; exact List.getElem?_set_ne (Ne.symm e)
theorem set_cont {g : Sg} {s t : Sl} (ht : g.rho[i]? = some t) (p : Pl) : cont { g with rho := g.rho.set i s } p = if p = .slot i then s.cont else cont g p := by
  cases p with
  | fld n f => rw [if_neg (by simp)]; rfl
  | slot j =>
    show ((g.rho.set i s)[j]?).bind Sl.cont = _
    rw [set_rho ht]
    by_cases e : j = i
    · subst e; rw [if_pos rfl, if_pos rfl]; rfl
    · rw [if_neg e, if_neg (by simpa using e)]; rfl
theorem sig_get {v : V} {σ : L2.St} {n : Nat} (hl : n < σ.length) (j : Nat) : (σ.set n (some v))[j]? = if j = n then some (some v) else σ[j]? := by
  by_cases e : j = n
  · subst e; rw [if_pos rfl]; exact List.getElem?_set_self hl
  · rw [if_neg e]; exact List.getElem?_set_ne (Ne.symm e)
/-- a slot is given a value -/
theorem setVal_ok {d : D} {v : V} (ok : Ok X σ c) (hv : R X c.S d v) (h : setSl c.g i (.val d) = some g') : Step true c ⟨g', c.S, c.H⟩ ∧ Ok X (σ.set i (some v)) ⟨g', c.S, c.H⟩ := by
  obtain ⟨t, ht, hr, rfl⟩ := setSl_some h
  have hlt : i < σ.length := by rw [ok.len]; exact (List.getElem?_eq_some_iff.mp ht).1
  have hc : ∀ p k, cont { c.g with rho := c.g.rho.set i (.val d) } p = some k → cont c.g p = some k ∧ p ≠ .slot i := by
    intro p k hk
    rw [set_cont ht] at hk
    by_cases e : p = .slot i
    · subst e; rw [if_pos rfl] at hk; cases hk
    · rw [if_neg e] at hk; exact ⟨hk, e⟩
  have hlv : ∀ q, Live { c.g with rho := c.g.rho.set i (.val d) } q → Live c.g q := by
    intro q lq
    cases q with
    | slot j => obtain ⟨k, hk⟩ := lq; exact ⟨k, (hc _ k hk).1⟩
    | fld n f => obtain ⟨k, hk⟩ := lq; exact ⟨k, (hc _ k hk).1⟩
    | ins n => exact lq
  refine ⟨⟨fun _ _ h => h, Nat.le_refl _, fun _ _ => rfl, fun _ h => h, fun _ _ h _ => ⟨h, fun _ => rfl⟩, fun q lq => .inl ⟨q, hlv q lq, rfl⟩, fun n f lf => ⟨?_, rfl⟩, fun _ j lj => ⟨hlv _ lj, rfl⟩, fun j k hj => ⟨?_, rfl⟩, fun j b k hj => ⟨?_, rfl⟩, List.length_set⟩, ⟨ok.sub, ?_, ok.nc, ?_, ?_, ?_, ok.ins, fun p q lp lq e => ok.inj p q (hlv p lp) (hlv q lq) e⟩⟩
  · obtain ⟨k, hk⟩ := lf
    exact ⟨k, by rw [set_cont ht, if_neg (by simp)]; exact hk⟩
  · refine ⟨k, ?_⟩
    show (c.g.rho.set i (.val d))[j]? = _
    rw [set_rho ht]
    by_cases e : j = i
    · subst e; rw [hj] at ht; cases ht; cases hr
    · rw [if_neg e]; exact hj
  · show (c.g.rho.set i (.val d))[j]? = _
    rw [set_rho ht]
    by_cases e : j = i
    · subst e; rw [hj] at ht; cases ht; cases hr
    · rw [if_neg e]; exact hj
  · show (σ.set i _).length = (c.g.rho.set i _).length
    rw [List.length_set, List.length_set]; exact ok.len
  · intro j e hj
    have hj' : (c.g.rho.set i (.val d))[j]? = some (.val e) := hj
    rw [set_rho ht] at hj'
    rw [sig_get hlt]
    by_cases ej : j = i
    · rw [if_pos ej] at hj' ⊢
      cases hj'
      exact ⟨v, rfl, hv⟩
    · rw [if_neg ej] at hj' ⊢
      exact ok.val j e hj'
  · intro j k hk
    obtain ⟨h1, h2⟩ := hc _ k hk
    obtain ⟨q1, q2, q3⟩ := ok.own j k h1
    refine ⟨?_, q2, q3⟩
    rw [sig_get hlt, if_neg (by simpa using h2)]
    exact q1
  · intro n f k hk
    exact ok.fld n f k (hc _ k hk).1
/-- a slot is given a container of its own -/
theorem setOwn_ok {k : C} {v : V} (s : Step true c0 c) (ok : Ok X σ c) (hv : RR X c0 c (.fresh k) v) (h : setSl c.g i (.own k) = some g') : ∃ S', Step false c0 ⟨g', S', c.H⟩ ∧ Ok X (σ.set i (some v)) ⟨g', S', c.H⟩ := by
  obtain ⟨t, ht, hr, rfl⟩ := setSl_some h
  obtain ⟨a, rfl, hG, cr, hnl, ho⟩ := hv
  have hlt : i < σ.length := by rw [ok.len]; exact (List.getElem?_eq_some_iff.mp ht).1
  let S' : Gh := { c.S with adr := fun p => if p = .slot i then a else c.S.adr p }
  have adr_i : S'.adr (.slot i) = a := if_pos rfl
  have adr_n : ∀ p, p ≠ .slot i → S'.adr p = c.S.adr p := fun p hp => if_neg hp
  have ge : Ge c.S S' := ⟨fun _ _ h => h, Nat.le_refl _, fun n _ => adr_n _ (by simp)⟩
  have hc : ∀ p k1, cont { c.g with rho := c.g.rho.set i (.own k) } p = some k1 → (p = .slot i ∧ k1 = k) ∨ (p ≠ .slot i ∧ cont c.g p = some k1) := by
    intro p k1 hk
    rw [set_cont ht] at hk
    by_cases e : p = .slot i
    · rw [if_pos e] at hk; cases hk; exact .inl ⟨e, rfl⟩
    · rw [if_neg e] at hk; exact .inr ⟨e, hk⟩
  have hlv : ∀ q, Live { c.g with rho := c.g.rho.set i (.own k) } q → q = .slot i ∨ (q ≠ .slot i ∧ Live c.g q) := by
    intro q lq
    cases q with
    | slot j =>
      obtain ⟨k1, hk⟩ := lq
      rcases hc _ k1 hk with ⟨e, _⟩ | ⟨e, h1⟩
      · cases e; exact .inl rfl
      · exact .inr ⟨by simpa using e, k1, h1⟩
    | fld n f =>
      obtain ⟨k1, hk⟩ := lq
      rcases hc _ k1 hk with ⟨e, _⟩ | ⟨e, h1⟩
      · cases e
      · exact .inr ⟨by simp, k1, h1⟩
    | ins n => exact .inr ⟨by simp, lq⟩
  refine ⟨S', ⟨fun a o h => s.G a o h, s.nc, fun n hn => (adr_n _ (by simp)).trans (s.ia n hn), s.trk, s.fr, fun q lq => ?_, fun n f lf => ?_, fun h => (nomatch h), fun j k1 hj => ?_, fun j b k1 hj => ?_, ?_⟩, ⟨ok.sub, ?_, ok.nc, ?_, ?_, ?_, ?_, ?_⟩⟩
  · rcases hlv q lq with rfl | ⟨e, lq'⟩
    · rw [adr_i]
      rcases ho with o | ⟨q, lq, e⟩
      · exact .inr o
      · exact .inl ⟨q, lq, e.symm⟩
    · rw [adr_n q e]; exact s.live q lq'
  · obtain ⟨⟨k1, hk⟩, e⟩ := s.fkeep n f lf
    refine ⟨⟨k1, by rw [set_cont ht, if_neg (by simp)]; exact hk⟩, (adr_n _ (by simp)).trans e⟩
  · obtain ⟨⟨k2, h2⟩, e⟩ := s.ref j k1 hj
    have ne : j ≠ i := fun z => by subst z; rw [h2] at ht; cases ht; cases hr
    refine ⟨⟨k2, ?_⟩, (adr_n _ (by simpa using ne)).trans e⟩
    show (c.g.rho.set i (.own k))[j]? = _
    rw [set_rho ht, if_neg ne]; exact h2
  · obtain ⟨h2, e⟩ := s.lck j b k1 hj
    have ne : j ≠ i := fun z => by subst z; rw [h2] at ht; cases ht; cases hr
    refine ⟨?_, (adr_n _ (by simpa using ne)).trans e⟩
    show (c.g.rho.set i (.own k))[j]? = _
    rw [set_rho ht, if_neg ne]; exact h2
  · exact List.length_set.trans s.rlen
  · show (σ.set i _).length = (c.g.rho.set i _).length
    rw [List.length_set, List.length_set]; exact ok.len
  · intro j e hj
    have hj' : (c.g.rho.set i (.own k))[j]? = some (.val e) := hj
    rw [set_rho ht] at hj'
    rw [sig_get hlt]
    by_cases ej : j = i
    · rw [if_pos ej] at hj'; cases hj'
    · rw [if_neg ej] at hj' ⊢
      obtain ⟨v, h1, h2⟩ := ok.val j e hj'
      exact ⟨v, h1, R.mono ge e h2⟩
  · intro j k1 hk
    rw [sig_get hlt]
    rcases hc _ k1 hk with ⟨e, rfl⟩ | ⟨e, h1⟩
    · have e' : j = i := by simpa using e
      subst e'
      rw [if_pos rfl, show (S'.adr (.slot j)) = a from adr_i]
      exact ⟨rfl, hG, CR.mono ge (fun _ h => h) cr⟩
    · have e' : j ≠ i := by simpa using e
      obtain ⟨q1, q2, q3⟩ := ok.own j k1 h1
      rw [if_neg e', show (S'.adr (.slot j)) = c.S.adr (.slot j) from adr_n _ (by simpa using e')]
      exact ⟨q1, q2, CR.mono ge (fun _ h => h) q3⟩
  · intro n f k1 hk
    rcases hc _ k1 hk with ⟨e, _⟩ | ⟨e, h1⟩
    · cases e
    · obtain ⟨q2, q3⟩ := ok.fld n f k1 h1
      rw [show (S'.adr (.fld n f)) = c.S.adr (.fld n f) from adr_n _ (by simp)]
      exact ⟨q2, CR.mono ge (fun _ h => h) q3⟩
  · intro n I hI
    obtain ⟨q1, Ca, dx, fs, q2, q3, q4⟩ := ok.ins n I hI
    rw [show (S'.adr (.ins n)) = c.S.adr (.ins n) from adr_n _ (by simp)]
    exact ⟨q1, Ca, dx, fs, q2, q3, FR.mono ge (fun f => adr_n _ (by simp)) q4⟩
  · intro p q lp lq e
    have e : S'.adr p = S'.adr q := e
    rcases hlv p lp with rfl | ⟨np, lp'⟩
    · rcases hlv q lq with rfl | ⟨nq, lq'⟩
      · rfl
      · rw [adr_i, adr_n q nq] at e
        exact absurd e.symm (hnl q lq')
    · rcases hlv q lq with rfl | ⟨nq, lq'⟩
      · rw [adr_i, adr_n p np] at e
        exact absurd e (hnl p lp')
      · rw [adr_n p np, adr_n q nq] at e
        exact ok.inj p q lp' lq' e
/-! ### targets -/
def gMany : List Nat → TGs
  | [] => L2.gNil
  | i :: is => L2.gCons (L2.gName i) (gMany is)
def gTg (K : PySem.W.Frag) : Tg → TG
  | .nm i => L2.gName i
  | .tup is => L2.gTup K is.length (gMany is)
theorem many_ok : ∀ {is : List Nat} {ds : List D} {vs : List V} {σ : L2.St} {c : Cfg}, Ok X σ c → RL X c.S ds vs → setMany c.g is ds = some g' →
    ∃ σ', Step true c ⟨g', c.S, c.H⟩ ∧ Ok X σ' ⟨g', c.S, c.H⟩ ∧ (∀ j, j ∉ is → σ'[j]? = σ[j]?) ∧ σ'.length = σ.length ∧ vs.length = is.length ∧ ∀ Q : L2.St → Hp → Prop, Q σ' c.H → gMany is vs σ c.H Q
  | [], [], vs, σ, c, ok, h, e => by
    simp only [RL] at h
    cases e
    subst h
    exact ⟨σ, Step.refl, ok, fun _ _ => rfl, rfl, rfl, fun Q q => ⟨rfl, q⟩⟩
  | [], d :: ds, vs, σ, c, ok, h, e => by cases e
  | i :: is, [], vs, σ, c, ok, h, e => by cases e
  | i :: is, d :: ds, vs, σ, c, ok, h, e => by
    simp only [RL] at h
    obtain ⟨v, r, rfl, h1, h2⟩ := h
    unfold setMany at e
    split at e
    · rename_i g1 hg
      obtain ⟨s1, ok1⟩ := setVal_ok ok h1 hg
      obtain ⟨σ', s2, ok2, hout, hsl, hl, q⟩ := many_ok (c := ⟨g1, c.S, c.H⟩) ok1 h2 e
      refine ⟨σ', s1.trans s2, ok2, fun j hj => ?_, hsl.trans List.length_set, by rw [List.length_cons, List.length_cons, hl], fun Q hQ => ⟨v, r, rfl, q Q hQ⟩⟩
      rw [hout j (fun z => hj (List.mem_cons_of_mem _ z))]
      have hj' : i ≠ j := fun z => hj (by rw [z]; exact List.mem_cons_self ..)
      exact List.getElem?_set_ne hj'
    · cases e
theorem bind_ok {tg : Tg} {d : D} {v : V} (ok : Ok X σ c) (hv : R X c.S d v) (h : bindTg tg d c.g = some g') : ∃ σ', Step true c ⟨g', c.S, c.H⟩ ∧ Ok X σ' ⟨g', c.S, c.H⟩ ∧ (∀ j, j ∉ tg.slots → σ'[j]? = σ[j]?) ∧ σ'.length = σ.length ∧ ∀ Q : L2.St → Hp → Prop, Q σ' c.H → gTg X.K tg v σ c.H Q := by
  cases tg with
  | nm i =>
    obtain ⟨s1, ok1⟩ := setVal_ok ok hv h
    refine ⟨_, s1, ok1, fun j hj => ?_, List.length_set, fun Q q => q⟩
    have hj' : i ≠ j := fun z => hj (by rw [z]; exact List.mem_cons_self ..)
    exact List.getElem?_set_ne hj'
  | tup is =>
    unfold bindTg at h
    split at h
    case h_1 => rename_i e; cases e
    rename_i is' e
    cases e
    split at h
    · rename_i ds
      obtain ⟨a, xs, rfl, g, hx, rl⟩ := top_tup ok (R.top ok hv)
      obtain ⟨σ', s1, ok1, ho, hsl, hl, q⟩ := many_ok ok rl h
      exact ⟨σ', s1, ok1, ho, hsl, fun Q hQ => ⟨a, xs, rfl, SqT.of hx, hl, q Q hQ⟩⟩
    · cases h
/-- a name, or names, take a result -/
theorem put_ok {tg : Tg} {fr : Bool} {r : Res} {v : V} (s : Step true c0 c) (ok : Ok X σ c) (hv : RR X c0 c r v) (h : put tg fr r c.g = some g') :
    ∃ σ' S', Step false c0 ⟨g', S', c.H⟩ ∧ Ok X σ' ⟨g', S', c.H⟩ ∧ ∀ Q : L2.St → Hp → Prop, Q σ' c.H → gTg X.K tg v σ c.H Q := by
  unfold put at h
  split at h
  · rename_i d
    obtain ⟨σ', s1, ok1, _, _, q⟩ := bind_ok ok hv h
    exact ⟨σ', c.S, s.weak.trans s1.weak, ok1, q⟩
  · rename_i k
    split at h
    case h_2 => cases h
    rename_i i
    split at h
    · rename_i hfr
      split at h
      case h_2 => cases h
      rename_i ds
      obtain ⟨c2, hg, hH, s2, ok2, r2⟩ := take_ok s ok hv rfl
      have h' : setSl c2.g i (.val (.lst ds)) = some g' := by rw [hg]; exact h
      obtain ⟨s3, ok3⟩ := setVal_ok ok2 r2 h'
      refine ⟨_, c2.S, ?_, ?_, fun Q q => q⟩
      · rw [← hH]; exact s2.weak.trans s3.weak
      · rw [← hH]; exact ok3
    · obtain ⟨S', s1, ok1⟩ := setOwn_ok s ok hv h
      exact ⟨_, S', s1, ok1, fun Q q => q⟩
  · cases h
end
end Iv
set_option linter.all false
set_option autoImplicit false
set_option maxRecDepth 100000
set_option maxHeartbeats 1000000
/-! Iv20: assignments, by their forms. -/
namespace Iv
open PySem (Str Expr Stmt CmpOp Operator BoolOp PyData Addr Value Scope Env Pos)
open L2 (V HO Hp upd upd_same upd_ne ne_of ne_of_none SqL SqT Rd Same WX TE TT TA TS TG TGs PE PT PA PS PSs PC PW PG PGs R2 OpR Cx CallR XK Ends TSet)

section
variable {X : Tx} {σ : L2.St} {c c0 c1 : Cfg} {g' : Sg} {i : Nat} {v : V}
theorem RL.set {S : Gh} : ∀ {ds : List D} {xs : List V} {d : D} {v : V} (j : Nat), RL X S ds xs → R X S d v → RL X S (ds.set j d) (xs.set j v)
  | [], xs, d, v, j, h, hd => by simp only [RL] at h; subst h; simp [RL]
  | e :: ds, xs, d, v, 0, h, hd => by
    simp only [RL] at h
    obtain ⟨w, r, rfl, h1, h2⟩ := h
    simp only [List.set_cons_zero, RL]
    exact ⟨v, r, rfl, hd, h2⟩
  | e :: ds, xs, d, v, j + 1, h, hd => by
    simp only [RL] at h
    obtain ⟨w, r, rfl, h1, h2⟩ := h
    simp only [List.set_cons_succ, RL]
    exact ⟨w, _, rfl, h1, RL.set j h2 hd⟩
def setAll : TSet := fun o i v H Q => L2.rSetL o i v H Q ∨ L2.rSetD o i v H Q
theorem setSub_ok {o : Res} {k d : D} {vo vk vd : V} (ok : Ok X σ c) (ro : RR X c0 c o vo) (rk : R X c.S k vk) (rd : R X c.S d vd) (h : setSubD o k d c.g = some g') :
    ∃ c', c'.g = g' ∧ Step true c c' ∧ Ok X σ c' ∧ ∀ Q : Hp → Prop, Q c'.H → setAll vo vk vd c.H Q := by
  unfold setSubD at h
  split at h
  case h_2 => cases h
  rename_i p
  split at h
  · rename_i ds i hc
    obtain ⟨j, hj, h2⟩ := Option.bind_eq_some_iff.mp h
    obtain ⟨_, xs, hx, kr⟩ := cont_at ok hc
    have hi : vk = .int i := top_int (R.top ok rk)
    obtain ⟨st, ok'⟩ := setC_ok ok h2 (o := .lst (xs.set j vd)) fun H' hh => ⟨_, hh, kr.set j rd⟩
    refine ⟨_, rfl, st, ok', fun Q q => .inl ⟨_, xs, i, j, ro.1 (live_at hc), hi, hx, ?_, q⟩⟩
    rw [kr.length]; exact hj
  · rename_i kvs i hc
    obtain ⟨kk, hk, h2⟩ := Option.bind_eq_some_iff.mp h
    split at h2
    case isFalse => cases h2
    rename_i hl
    obtain ⟨_, xs, hx, kr⟩ := cont_at ok hc
    obtain ⟨st, ok'⟩ := setC_ok ok h2 (o := .dK (L2.putK xs kk vd)) fun H' hh => ⟨_, hh, KR.put kr rd⟩
    exact ⟨_, rfl, st, ok', fun Q q => .inr ⟨_, _, ro.1 (live_at hc), .inl ⟨xs, kk, hx, key_ok (R.top ok rk) hk, by rw [kr.length]; exact lt_line hl, rfl⟩, q⟩⟩
  · rename_i kvs ks hc
    obtain ⟨kk, hk, h2⟩ := Option.bind_eq_some_iff.mp h
    split at h2
    case isFalse => cases h2
    rename_i hl
    obtain ⟨_, xs, hx, kr⟩ := cont_at ok hc
    obtain ⟨st, ok'⟩ := setC_ok ok h2 (o := .dT (L2.putK xs kk vd)) fun H' hh => ⟨_, hh, KR.put kr rd⟩
    obtain ⟨b, ys, rfl, g, hy, ry⟩ := top_tup ok (R.top ok rk)
    have z := keys_ok ry hk
    subst z
    exact ⟨_, rfl, st, ok', fun Q q => .inr ⟨_, _, ro.1 (live_at hc), .inr ⟨xs, kk, b, hx, rfl, hy, by rw [kr.length]; exact lt_line hl, rfl⟩, q⟩⟩
  · cases h
/-! ### fields -/
theorem put_get {f f' : Str} {s : Sl} : ∀ {fs : List (Str × Sl)}, fget f' (fput f s fs) = if f' = f then some s else fget f' fs
  | [] => by
    unfold fput fget
    by_cases e : f = f'
    · rw [if_pos e, if_pos e.symm]
    · rw [if_neg e, if_neg (fun z => e z.symm)]
      rfl
  | (n, u) :: r => by
    unfold fput
    by_cases e : n = f
    · rw [if_pos e]
      unfold fget
      by_cases e2 : n = f'
      · rw [if_pos e2, if_pos (e2.symm.trans e)]
      · rw [if_neg e2, if_neg (fun z => e2 (e.trans z.symm)), if_neg e2]
    · rw [if_neg e]
      unfold fget
      by_cases e2 : n = f'
      · rw [if_pos e2, if_neg (fun z => e (e2.trans z)), if_pos e2]
      · rw [if_neg e2, if_neg e2]
        exact put_get
theorem FR.len {S : Gh} {n : Nat} : ∀ {fs : List (Str × Sl)} {vs : List (Str × V)}, FR X S n fs vs → vs.length = fs.length
  | [], vs, h => by rw [show vs = [] from h]; rfl
  | (f, s) :: r, vs, ⟨v, q, e, h1, h2⟩ => by rw [e, List.length_cons, List.length_cons, FR.len h2]
theorem FR.setF {S : Gh} {n : Nat} {f : Str} {s : Sl} (hs : match s with | .un => False | .val d => R X S d v | _ => v = .ref (S.adr (.fld n f))) : ∀ {fs : List (Str × Sl)} {vs : List (Str × V)}, FR X S n fs vs → FR X S n (fput f s fs) (L2.putF f v vs)
  | [], vs, h => by
    rw [show vs = [] from h]
    exact ⟨v, [], rfl, hs, rfl⟩
  | (m, t) :: r, vs, ⟨w, q, e, h1, h2⟩ => by
    subst e
    unfold fput L2.putF
    by_cases em : m = f
    · rw [if_pos em, if_pos em]
      subst em
      exact ⟨v, q, rfl, hs, h2⟩
    · rw [if_neg em, if_neg em]
      exact ⟨w, _, rfl, h1, FR.setF hs h2⟩
/-- the fields that differ keep their places -/
theorem FR.same {S S' : Gh} {n : Nat} {P : Str → Prop} (m : Ge S S') (ha : ∀ f, P f → S'.adr (.fld n f) = S.adr (.fld n f)) : ∀ {fs : List (Str × Sl)} {vs : List (Str × V)}, (∀ p ∈ fs, isCont p.2 = true → P p.1) → FR X S n fs vs → FR X S' n fs vs
  | [], vs, _, h => h
  | (f, s) :: r, vs, hp, ⟨v, q, e, h1, h2⟩ => by
    refine ⟨v, q, e, ?_, FR.same m ha (fun p hm => hp p (List.mem_cons_of_mem _ hm)) h2⟩
    have hf := hp (f, s) (List.mem_cons_self ..)
    cases s with
    | un => exact h1
    | val d => exact R.mono m d h1
    | own c => exact h1.trans (by rw [ha f (hf rfl)])
    | ref c => exact h1.trans (by rw [ha f (hf rfl)])
    | lck b c => exact h1.trans (by rw [ha f (hf rfl)])
theorem noCont_get {f : Str} : ∀ {fs : List (Str × Sl)}, noCont f fs = true → (fget f fs).bind Sl.cont = none
  | [], _ => rfl
  | (m, t) :: r, h => by
    unfold noCont at h
    simp only [List.all_cons, Bool.and_eq_true] at h
    unfold fget
    by_cases e : m = f
    · rw [if_pos e]
      have h1 := h.1
      have hd : decide (m ≠ f) = false := decide_eq_false (fun z => z e)
      rw [hd, Bool.or_false] at h1
      cases t <;> first | rfl | (simp [isCont] at h1)
    · rw [if_neg e]
      exact noCont_get h.2
/-- o.f = result -/
theorem setF_ok {P : Pg} {n : Nat} {f : Str} {r : Res} {s : Sl} (st : Step true c0 c) (ok : Ok X σ c) (rr : RR X c0 c r v) (hr : r.sl = some s) (h : setAttrD P n f s c.g = some g') :
    ∃ S' I Ca dx fs, c.g.cs[n]? = some I ∧ P.fld I.c f = true ∧ X.mg I.c = some (.ref Ca) ∧ c.H (c.S.adr (.ins n)) = some (.ins Ca dx fs) ∧ fs.length < 1000 ∧
      Step false c0 ⟨g', S', upd c.H (c.S.adr (.ins n)) (.ins Ca dx (L2.putF f v fs))⟩ ∧ Ok X σ ⟨g', S', upd c.H (c.S.adr (.ins n)) (.ins Ca dx (L2.putF f v fs))⟩ := by
  unfold setAttrD at h
  split at h
  case h_2 => cases h
  rename_i I hI
  split at h
  case isFalse => cases h
  rename_i hc
  cases h
  simp only [Bool.and_eq_true, decide_eq_true_eq] at hc
  obtain ⟨⟨hfl, hlen⟩, hno⟩ := hc
  obtain ⟨hGn, Ca, dx, fs, hm, hh, fr⟩ := ok.ins n I hI
  have hlt : n < c.g.cs.length := (List.getElem?_eq_some_iff.mp hI).1
  have ln : Live c.g (.ins n) := hlt
  -- the result, its place
  obtain ⟨a0, hs⟩ : ∃ a0, (∃ d, s = .val d ∧ R X c.S d v ∧ a0 = c.S.adr (.fld n f)) ∨ (∃ k, s = .own k ∧ v = .ref a0 ∧ c.S.G a0 = none ∧ CR X c.S c.H a0 k ∧ (∀ q, Live c.g q → c.S.adr q ≠ a0) ∧ (c0.H a0 = none ∨ ∃ q, Live c0.g q ∧ c0.S.adr q = a0)) := by
    cases r with
    | val d => cases hr; exact ⟨_, .inl ⟨d, rfl, rr, rfl⟩⟩
    | fresh k => cases hr; obtain ⟨a, e, q1, q2, q3, q4⟩ := rr; exact ⟨a, .inr ⟨k, rfl, e, q1, q2, q3, q4⟩⟩
    | brw _ => cases hr
  let S' : Gh := { c.S with adr := fun p => if p = .fld n f then a0 else c.S.adr p }
  have adr_i : S'.adr (.fld n f) = a0 := if_pos rfl
  have adr_n : ∀ p, p ≠ .fld n f → S'.adr p = c.S.adr p := fun p hp => if_neg hp
  have ge : Ge c.S S' := ⟨fun _ _ h => h, Nat.le_refl _, fun m _ => adr_n _ (by simp)⟩
  have old : cont c.g (.fld n f) = none := by
    show (c.g.cs[n]?).bind (fun I => (fget f I.fs).bind Sl.cont) = none
    rw [hI]; exact noCont_get hno
  have nlf : ¬ Live c.g (.fld n f) := fun ⟨k, hk⟩ => by rw [old] at hk; cases hk
  generalize hcs : c.g.cs.set n { I with fs := fput f s I.fs } = cs'
  have hg' : ∀ m, cs'[m]? = if m = n then some { I with fs := fput f s I.fs } else c.g.cs[m]? := by
    intro m
    rw [← hcs]
    by_cases e : m = n
    · subst e; rw [if_pos rfl]; exact List.getElem?_set_self hlt
    · rw [if_neg e]; exact List.getElem?_set_ne (Ne.symm e)
  have hct : ∀ p, cont { c.g with cs := cs' } p = if p = .fld n f then s.cont else cont c.g p := by
    intro p
    cases p with
    | slot j => rw [if_neg (by simp)]; rfl
    | fld m f' =>
      show (cs'[m]?).bind (fun I => (fget f' I.fs).bind Sl.cont) = _
      rw [hg']
      by_cases e : m = n
      · subst e
        rw [if_pos rfl]
        show (fget f' (fput f s I.fs)).bind Sl.cont = _
        rw [put_get]
        by_cases e2 : f' = f
        · subst e2; rw [if_pos rfl, if_pos rfl]; rfl
        · rw [if_neg e2, if_neg (by simpa using e2)]
          show _ = (c.g.cs[m]?).bind _
          rw [hI]; rfl
      · rw [if_neg e, if_neg (by simp [e])]; rfl
  have hlv : ∀ q, Live { c.g with cs := cs' } q → (q = .fld n f ∧ ∃ k, s = .own k) ∨ (q ≠ .fld n f ∧ Live c.g q) := by
    intro q lq
    cases q with
    | slot j =>
      obtain ⟨k, hk⟩ := lq
      rw [hct, if_neg (by simp)] at hk
      exact .inr ⟨by simp, k, hk⟩
    | fld m f' =>
      obtain ⟨k, hk⟩ := lq
      rw [hct] at hk
      by_cases e : Pl.fld m f' = .fld n f
      · rw [if_pos e] at hk
        cases e
        refine .inl ⟨rfl, ?_⟩
        rcases hs with ⟨d, rfl, _⟩ | ⟨k', rfl, _⟩
        · cases hk
        · exact ⟨k', rfl⟩
      · rw [if_neg e] at hk
        exact .inr ⟨by simpa using e, k, hk⟩
    | ins m =>
      refine .inr ⟨by simp, ?_⟩
      have h' : m < cs'.length := lq
      rw [← hcs, List.length_set] at h'
      exact h'
  have hnl : (∃ k, s = .own k) → (∀ q, Live c.g q → c.S.adr q ≠ a0) ∧ (c0.H a0 = none ∨ ∃ q, Live c0.g q ∧ c0.S.adr q = a0) := by
    rintro ⟨k, rfl⟩
    rcases hs with ⟨d, e, _⟩ | ⟨k', e, _, _, _, q1, q2⟩
    · cases e
    · exact ⟨q1, q2⟩
  have ne : ∀ q, Live c.g q → q ≠ .ins n → upd c.H (c.S.adr (.ins n)) (.ins Ca dx (L2.putF f v fs)) (c.S.adr q) = c.H (c.S.adr q) := fun q lq hq => upd_ne fun e => hq (ok.inj q (.ins n) lq ln e)
  have neo : ∀ {a u}, c0.H a = some u → (∀ p, Live c0.g p → c0.S.adr p ≠ a) → a ≠ c.S.adr (.ins n) := by
    intro a u hu hp e
    rcases st.live (.ins n) ln with ⟨q, lq, e2⟩ | z
    · exact hp q lq (e2.symm.trans e.symm)
    · rw [← e, hu] at z; cases z
  have fr' : FR X S' n (fput f s I.fs) (L2.putF f v fs) := by
    refine FR.setF ?_ (FR.same (P := fun g => g ≠ f) ge (fun g hg => adr_n _ (by simpa using hg)) (fun p hp hcp => ?_) fr)
    · rcases hs with ⟨d, rfl, hd, _⟩ | ⟨k, rfl, hv, _⟩
      · exact R.mono ge d hd
      · show v = .ref (S'.adr (.fld n f))
        rw [adr_i]; exact hv
    · have := (List.all_eq_true.mp hno) p hp
      rw [hcp] at this
      simpa using this
  refine ⟨S', I, Ca, dx, fs, hI, hfl, hm, hh, by rw [fr.len]; exact hlen, ⟨fun a o h => st.G a o h, st.nc, fun m hm => (adr_n _ (by simp)).trans (st.ia m hm), fun a ha => ?_, fun a u hu hp => ?_, fun q lq => ?_, fun m f' lf => ?_, fun h => (nomatch h), fun j k hj => ?_, fun j b k hj => ?_, st.rlen⟩, ⟨fun a u hu => ?_, ok.len, ?_, fun j e hj => ?_, fun j k hk => ?_, fun m f' k hk => ?_, fun m J hJ => ?_, fun q q' lq lq' e => ?_⟩⟩
  · show upd c.H (c.S.adr (.ins n)) _ a ≠ none
    by_cases e : a = c.S.adr (.ins n)
    · subst e; rw [upd_same]; exact fun z => nomatch z
    · rw [upd_ne e]; exact st.trk a ha
  · obtain ⟨q1, q2⟩ := st.fr a u hu hp
    refine ⟨?_, q2⟩
    show upd c.H (c.S.adr (.ins n)) _ a = some u
    rw [upd_ne (neo hu hp)]; exact q1
  · rcases hlv q lq with ⟨rfl, hk⟩ | ⟨e, lq'⟩
    · rw [adr_i]
      rcases (hnl hk).2 with z | ⟨q, lq, e⟩
      · exact .inr z
      · exact .inl ⟨q, lq, e.symm⟩
    · rw [adr_n q e]; exact st.live q lq'
  · obtain ⟨lf', e⟩ := st.fkeep m f' lf
    have ne2 : Pl.fld m f' ≠ .fld n f := fun z => by cases z; exact nlf lf'
    obtain ⟨k, hk⟩ := lf'
    exact ⟨⟨k, by rw [hct, if_neg ne2]; exact hk⟩, (adr_n _ (by simpa using ne2)).trans e⟩
  · obtain ⟨q1, q2⟩ := st.ref j k hj
    exact ⟨q1, (adr_n _ (by simp)).trans q2⟩
  · obtain ⟨q1, q2⟩ := st.lck j b k hj
    exact ⟨q1, (adr_n _ (by simp)).trans q2⟩
  · have hu' : c.S.G a = some u := hu
    show upd c.H (c.S.adr (.ins n)) _ a = some u
    rw [upd_ne fun e => by rw [e, hGn] at hu'; cases hu']
    exact ok.sub a u hu'
  · show c.S.nc = cs'.length
    rw [← hcs, List.length_set]; exact ok.nc
  · obtain ⟨w, h1, h2⟩ := ok.val j e hj
    exact ⟨w, h1, R.mono ge e h2⟩
  · have hk' : cont { c.g with cs := cs' } (.slot j) = some k := hk
    rw [hct, if_neg (by simp)] at hk'
    obtain ⟨q1, q2, q3⟩ := ok.own j k hk'
    rw [show (S'.adr (.slot j)) = c.S.adr (.slot j) from adr_n _ (by simp)]
    exact ⟨q1, q2, CR.mono' ge (ne (.slot j) ⟨k, hk'⟩ (by simp)) q3⟩
  · have hk' : cont { c.g with cs := cs' } (.fld m f') = some k := hk
    rw [hct] at hk'
    by_cases e : Pl.fld m f' = .fld n f
    · rw [if_pos e] at hk'
      cases e
      rcases hs with ⟨d, rfl, _⟩ | ⟨k', rfl, hv, q1, q2, q3, q4⟩
      · cases hk'
      · cases hk'
        rw [show (S'.adr (.fld n f)) = a0 from adr_i]
        refine ⟨q1, CR.mono' ge (upd_ne fun e => ?_) q2⟩
        exact q3 (.ins n) ln e.symm
    · rw [if_neg e] at hk'
      obtain ⟨q2, q3⟩ := ok.fld m f' k hk'
      rw [show (S'.adr (.fld m f')) = c.S.adr (.fld m f') from adr_n _ (by simpa using e)]
      exact ⟨q2, CR.mono' ge (ne (.fld m f') ⟨k, hk'⟩ (by simp)) q3⟩
  · have hJ' : cs'[m]? = some J := hJ
    rw [hg'] at hJ'
    rw [show (S'.adr (.ins m)) = c.S.adr (.ins m) from adr_n _ (by simp)]
    by_cases e : m = n
    · subst e
      rw [if_pos rfl] at hJ'
      cases hJ'
      exact ⟨hGn, Ca, dx, _, hm, upd_same, fr'⟩
    · rw [if_neg e] at hJ'
      obtain ⟨q1, Cb, dy, gs, q2, q3, q4⟩ := ok.ins m J hJ'
      have lm : Live c.g (.ins m) := (List.getElem?_eq_some_iff.mp hJ').1
      exact ⟨q1, Cb, dy, gs, q2, (ne _ lm (by simpa using e)).trans q3, FR.mono ge (fun g => adr_n _ (by simp [e])) q4⟩
  · have e : S'.adr q = S'.adr q' := e
    rcases hlv q lq with ⟨rfl, hk⟩ | ⟨n1, lq⟩
    · rcases hlv q' lq' with ⟨rfl, _⟩ | ⟨n2, lq'⟩
      · rfl
      · rw [adr_i, adr_n q' n2] at e
        exact absurd e.symm ((hnl hk).1 q' lq')
    · rcases hlv q' lq' with ⟨rfl, hk⟩ | ⟨n2, lq'⟩
      · rw [adr_i, adr_n q n1] at e
        exact absurd e ((hnl hk).1 q lq)
      · rw [adr_n q n1, adr_n q' n2] at e
        exact ok.inj q q' lq lq' e
end

section
variable {X : Cx} {P : Pg} {W : WX} {st : Stmt} {rest : List Stmt} {e eo ei : Expr} {pos pos' : Pos} {t to ti : T} {f x : Str} {i : Nat}
theorem rs_asg {tg : Tg} {fr : Bool} (h : PS X st (L2.tAsg (tE (tx X) W (ev P t)) (gTg X.K tg))) : PSf X W st (ex P (.asg tg fr t)) := by
  refine PS.imp h ?_
  rintro D σ H ⟨c, r, rfl, ok, h, p⟩
  simp only [ex] at h
  refine tM_bndS ok h p.2 fun a v c1 s1 ok1 rr1 h1 => ?_
  obtain ⟨g', hg, rfl⟩ := doS_some h1
  obtain ⟨σ', S', s2, ok2, q⟩ := put_ok s1 ok1 rr1 hg
  exact q D.nx (p.1 .next rfl σ' ⟨g', S', c1.H⟩ rfl s2 ok2)
theorem rs_setSub (h : PS X st (L2.tAsg (tE (tx X) W (ev P t)) (L2.gSub (tE (tx X) W (ev P to)) (tE (tx X) W (ev P ti)) setAll))) : PSf X W st (ex P (.setSub to ti t)) := by
  refine PS.imp h ?_
  rintro D σ H ⟨c, r, rfl, ok, h, p⟩
  simp only [ex] at h
  refine tD_tE (tM_bndS ok h p.2 fun d v1 c1 s1 ok1 rr1 h1 => ?_)
  refine tM_bndS ok1 h1 (p.2.shift s1.weak) fun o v2 c2 s2 ok2 rr2 h2 => ?_
  refine tD_tE (tM_bndS ok2 h2 (p.2.shift (s1.trans s2).weak) fun k v3 c3 s3 ok3 rr3 h3 => ?_)
  obtain ⟨g', hg, rfl⟩ := doS_some h3
  have r1 : R (tx X) c3.S d v1 := R.mono (s2.trans s3).ge d rr1
  obtain ⟨c', e1, s4, ok4, q⟩ := setSub_ok ok3 (rr2.mono s3) rr3 r1 hg
  exact q (fun H' => D.nx σ H') (p.1 .next rfl σ c' e1 ((s1.trans (s2.trans (s3.trans s4))).weak) ok4)
theorem rs_setAttr (ho : PEf X W eo (ev P to)) (hv : PEf X W e (ev P t)) (hs : PySem.swapsWith e (some (.Attribute eo f pos')) pos.line X.env = pure false) (hcl : ∀ c f C, P.fld c f = true → X.mg c = some (.ref C) → L2.Cls X.K C ∧ L2.NoAttr X.K C f) :
    PSf X W (.Assign [.Attribute eo f pos'] e pos) (ex P (.setAttr to f t)) := by
  refine PS.imp (L2.ps_fld ho hv hs) ?_
  rintro D σ H ⟨c, r, rfl, ok, h, p⟩
  simp only [ex] at h
  refine tM_bndS ok h p.2 fun a v1 c1 s1 ok1 rr1 h1 => ?_
  refine tM_bndS ok1 h1 (p.2.shift s1.weak) fun o v2 c2 s2 ok2 rr2 h2 => ?_
  obtain ⟨g', hg, rfl⟩ := doS_some h2
  split at hg
  case h_2 => cases hg
  rename_i n s hsl
  obtain ⟨S', I, Ca, dx, fs, hI, hfl, hm, hh, hl, s3, ok3⟩ := setF_ok (P := P) (s1.trans s2) ok2 (rr1.mono s2) hsl hg
  obtain ⟨cl, na⟩ := hcl I.c f Ca hfl hm
  have hv2 : v2 = .ref (c2.S.adr (.ins n)) := by
    have h' : R (tx X) c2.S (.cell n) v2 := rr2
    simp only [R] at h'
    exact h'.1
  exact ⟨_, Ca, dx, fs, hv2, hh, cl, na, hl, p.1 .next rfl σ _ rfl s3 ok3⟩
def ipAll : Operator → L2.TIp
  | .Add => fun x y H Q => L2.ipI (fun i j => i + j) x y H Q ∨ ∃ i j, x = .str i ∧ y = .str j ∧ i.length + j.length ≤ PySem.sizeLine ∧ Q (.str (i ++ j)) H
  | .Sub => L2.ipI (fun i j => i - j)
  | _ => fun _ _ _ _ => False
theorem ip_all (op : Operator) : L2.PIp X op (ipAll op) := by
  cases op <;> first
    | exact L2.ip_sub
    | (intro pins s σ H x y v u Q I rx ry h; exact h.elim)
    | skip
  intro pins s σ H x y v u Q I rx ry h
  rcases h with h | h
  · exact L2.ip_add pins s σ H x y v u Q I rx ry h
  · exact L2.iop_add_str pins s σ H x y v u Q I rx ry h
theorem rs_aug {op : Operator} (hN : X.N.Nodup) (hi : X.N[i]? = some x) (hx : L2.Loc X.env.scope x) (hf : X.fn x = true ∨ X.env.scope.names.lookup x = some .local) (ht : PEf X W e (ev P t)) : PSf X W (.AugAssign (.Name x pos') op e pos) (ex P (.aug i op t)) := by
  refine PS.imp (L2.ps_aug hN hi hx ht (ip_all op) hf) ?_
  rintro D σ H ⟨c, r, rfl, ok, h, p⟩
  simp only [ex, ev] at h
  cases hr : c.g.rho[i]? with
  | none =>
    rw [bnd_none (by unfold liftO; simp only [hr])] at h
    cases h
  | some s =>
    cases s with
    | val d =>
      rw [bnd_ok (show liftO _ c.g = some (.ok (.val d), c.g) by unfold liftO; simp only [hr])] at h
      obtain ⟨v0, hs0, r0⟩ := ok.val i d hr
      refine ⟨v0, hs0, ?_⟩
      refine tM_bndS ok h p.2 fun a v1 c1 s1 ok1 rr1 h1 => ?_
      obtain ⟨g', hg, rfl⟩ := doS_some h1
      split at hg
      case h_2 => cases hg
      rename_i d' e' e1 e2
      cases e1
      split at hg
      case h_2 => cases hg
      rename_i z hz
      have t2 := view_ok ok1 rr1 e2
      have t1 : Top (tx X) c1 d v0 := R.top ok1 (R.mono s1.ge d r0)
      unfold augD at hz
      split at hz
      · cases hz
        obtain ⟨s2, ok2⟩ := setVal_ok (v := .int _) ok1 (r_int _) hg
        exact .inl ⟨_, _, top_int t1, top_int t2, p.1 .next rfl _ ⟨g', c1.S, c1.H⟩ rfl (s1.trans s2).weak ok2⟩
      · cases hz
        obtain ⟨s2, ok2⟩ := setVal_ok (v := .int _) ok1 (r_int _) hg
        exact ⟨_, _, top_int t1, top_int t2, p.1 .next rfl _ ⟨g', c1.S, c1.H⟩ rfl (s1.trans s2).weak ok2⟩
      · split at hz
        · rename_i hl
          cases hz
          obtain ⟨s2, ok2⟩ := setVal_ok (v := .str _) ok1 (r_str _) hg
          exact .inr ⟨_, _, top_str t1, top_str t2, le_line hl, p.1 .next rfl _ ⟨g', c1.S, c1.H⟩ rfl (s1.trans s2).weak ok2⟩
        · cases hz
      · cases hz
    | un => rw [bnd_none (by unfold liftO; simp only [hr]; rfl)] at h; cases h
    | own k => 
      rw [bnd_ok (show liftO _ c.g = some (.ok (.brw (.slot i)), c.g) by unfold liftO; simp only [hr]; rfl)] at h
      obtain ⟨hs0, _⟩ := ok.own i k (by show (c.g.rho[i]?).bind Sl.cont = _; rw [hr]; rfl)
      refine ⟨_, hs0, tM_bndS ok h p.2 fun a v1 c1 s1 ok1 rr1 h1 => ?_⟩
      obtain ⟨g', hg, _⟩ := doS_some h1
      cases hg
    | ref k =>
      rw [bnd_ok (show liftO _ c.g = some (.ok (.brw (.slot i)), c.g) by unfold liftO; simp only [hr]; rfl)] at h
      obtain ⟨hs0, _⟩ := ok.own i k (by show (c.g.rho[i]?).bind Sl.cont = _; rw [hr]; rfl)
      refine ⟨_, hs0, tM_bndS ok h p.2 fun a v1 c1 s1 ok1 rr1 h1 => ?_⟩
      obtain ⟨g', hg, _⟩ := doS_some h1
      cases hg
    | lck b k =>
      rw [bnd_ok (show liftO _ c.g = some (.ok (.brw (.slot i)), c.g) by unfold liftO; simp only [hr]; rfl)] at h
      obtain ⟨hs0, _⟩ := ok.own i k (by show (c.g.rho[i]?).bind Sl.cont = _; rw [hr]; rfl)
      refine ⟨_, hs0, tM_bndS ok h p.2 fun a v1 c1 s1 ok1 rr1 h1 => ?_⟩
      obtain ⟨g', hg, _⟩ := doS_some h1
      cases hg
/-- from now on the list is as it is -/
theorem rs_frz {ss : Ss} (h : PSsf X W rest (exs P ss)) : PSsf X W rest (exs P (.cons (.frz i) ss)) := by
  refine PSs.imp h ?_
  rintro D σ H ⟨c, r, rfl, ok, h, p⟩
  rw [exs] at h
  simp only [ex] at h
  cases hd : frzS i c.g with
  | none => rw [bnd_none (by unfold doS; rw [hd])] at h; cases h
  | some g' =>
    rw [bnd_ok (show doS (frzS i) c.g = some (.ok .next, g') by unfold doS; rw [hd])] at h
    unfold frzS at hd
    split at hd
    case h_2 => cases hd
    rename_i ds hr
    have hc : cont c.g (.slot i) = some (.lst ds) := by show (c.g.rho[i]?).bind Sl.cont = _; rw [hr]; rfl
    obtain ⟨hs0, hG, xs, hx, rl⟩ := ok.own i _ hc
    have hset : setSl c.g i (.val (.lst ds)) = some g' := by
      unfold setSl
      rw [hr]
      show (if false = true then none else _) = _
      rw [if_neg Bool.false_ne_true]
      exact hd
    -- the slot is emptied, then the list is known
    obtain ⟨s1, ok1⟩ := setVal_ok (d := .non) (v := .non) (g' := { c.g with rho := c.g.rho.set i (.val .non) }) ok (r_non) (by unfold setSl; rw [hr]; rfl)
    have nl : ∀ q, Live { c.g with rho := c.g.rho.set i (.val .non) } q → c.S.adr q ≠ c.S.adr (.slot i) := by
      intro q lq e
      have l0 : Live c.g q := by
        cases q with
        | slot j => obtain ⟨k, hk⟩ := lq; rw [set_cont hr] at hk; by_cases e : Pl.slot j = .slot i; (rw [if_pos e] at hk; cases hk); (rw [if_neg e] at hk; exact ⟨k, hk⟩)
        | fld n f => obtain ⟨k, hk⟩ := lq; rw [set_cont hr, if_neg (by simp)] at hk; exact ⟨k, hk⟩
        | ins n => exact lq
      have := ok.inj q (.slot i) l0 ⟨_, hc⟩ e
      subst this
      obtain ⟨k, hk⟩ := lq
      rw [set_cont hr, if_pos rfl] at hk
      cases hk
    have s2 := Step.froze (e := false) (c := ⟨{ c.g with rho := c.g.rho.set i (.val .non) }, c.S, c.H⟩) (o := .lst xs) s1.weak hG (.inr ⟨.slot i, ⟨_, hc⟩, rfl⟩)
    have ok2 := Ok.froze (p := c.S.adr (.slot i)) (o := .lst xs) ok1 hG hx nl
    have rv : R (tx X) (Cfg.froze ⟨{ c.g with rho := c.g.rho.set i (.val .non) }, c.S, c.H⟩ (c.S.adr (.slot i)) (.lst xs)).S (.lst ds) (.ref (c.S.adr (.slot i))) := by
      simp only [R]
      exact ⟨_, xs, rfl, upd_same, RL.mono (ge_froze hG) ds rl⟩
    have hlt := (List.getElem?_eq_some_iff.mp hr).1
    obtain ⟨s3, ok3⟩ := setVal_ok (i := i) (g' := g') ok2 rv (by
      unfold setSl
      show (match ({ c.g with rho := c.g.rho.set i (.val .non) } : Sg).rho[i]? with | some t => _ | none => _) = _
      rw [show ({ c.g with rho := c.g.rho.set i (.val .non) } : Sg).rho[i]? = some (.val .non) from List.getElem?_set_self hlt]
      show (if false = true then none else _) = _
      rw [if_neg Bool.false_ne_true]
      cases hd
      exact congrArg some (congrArg (fun r => Sg.mk r c.g.cs) (List.set_set ..)))
    have hlen : i < σ.length := by rw [ok.len]; exact hlt
    have e1 : (σ.set i (some V.non)).set i (some (.ref (c.S.adr (.slot i)))) = σ := by
      rw [List.set_set]
      apply List.ext_getElem?
      intro j
      rw [sig_get hlen]
      by_cases e : j = i
      · subst e; rw [if_pos rfl]; exact hs0.symm
      · rw [if_neg e]
    rw [e1] at ok3
    exact ⟨⟨g', _, c.H⟩, r, rfl, ok3, h, p.shift (s2.trans s3.weak)⟩
end
end Iv
set_option linter.all false
set_option autoImplicit false
set_option maxRecDepth 100000
set_option maxHeartbeats 1000000
/-! Iv21: loops. -/
namespace Iv
open PySem (Str Expr Stmt CmpOp Operator BoolOp PyData Addr Value Scope Env Pos)
open L2 (V HO Hp upd upd_same upd_ne ne_of ne_of_none SqL SqT Rd Same WX TE TT TA TS TG TGs TI PE PT PA PS PSs PC PW PG PGs PI R2 OpR Cx CallR XK Ends TSet)

section
variable {X : Tx} {σ : L2.St} {c c0 c1 c2 : Cfg} {l : Option Nat} {e : Bool}
theorem Ok.congr {g2 : Sg} (ok : Ok X σ c) (hcs : g2.cs = c.g.cs) (hct : ∀ p, cont g2 p = cont c.g p) (hv : ∀ (i : Nat) (d : D), g2.rho[i]? = some (Sl.val d) → c.g.rho[i]? = some (Sl.val d)) (hl : g2.rho.length = c.g.rho.length) : Ok X σ ⟨g2, c.S, c.H⟩ := by
  have lv : ∀ q, Live g2 q → Live c.g q := by
    intro q lq
    cases q with
    | slot i => obtain ⟨k, hk⟩ := lq; exact ⟨k, by rw [← hct]; exact hk⟩
    | fld n f => obtain ⟨k, hk⟩ := lq; exact ⟨k, by rw [← hct]; exact hk⟩
    | ins n => have h : n < g2.cs.length := lq; rw [hcs] at h; exact h
  refine ⟨ok.sub, ok.len.trans hl.symm, ok.nc.trans (by rw [hcs]), fun i d h => ok.val i d (hv i d h), fun i k h => ok.own i k (by rw [← hct]; exact h), fun n f k h => ok.fld n f k (by rw [← hct]; exact h), fun n I h => ok.ins n I (by rw [← hcs]; exact h), fun p q lp lq e => ok.inj p q (lv p lp) (lv q lq) e⟩
def LkOk (g : Sg) (l : Option Nat) : Prop := ∀ i, l = some i → ∃ k, g.rho[i]? = some (.own k) ∨ g.rho[i]? = some (.ref k)
theorem lock_rho {g : Sg} (h : LkOk g l) (j : Nat) : ((lock l g).rho[j]? = g.rho[j]? ∧ l ≠ some j) ∨ (l = some j ∧ ∃ k, (g.rho[j]? = some (.own k) ∧ (lock l g).rho[j]? = some (.lck false k)) ∨ (g.rho[j]? = some (.ref k) ∧ (lock l g).rho[j]? = some (.lck true k))) := by
  cases l with
  | none => exact .inl ⟨rfl, by simp⟩
  | some i =>
    obtain ⟨k, hk⟩ := h i rfl
    by_cases e : j = i
    · subst e
      refine .inr ⟨rfl, k, ?_⟩
      rcases hk with hk | hk
      · refine .inl ⟨hk, ?_⟩
        unfold lock
        simp only [hk]
        exact List.getElem?_set_self (List.getElem?_eq_some_iff.mp hk).1
      · refine .inr ⟨hk, ?_⟩
        unfold lock
        simp only [hk]
        exact List.getElem?_set_self (List.getElem?_eq_some_iff.mp hk).1
    · refine .inl ⟨?_, by simpa using fun z => e z.symm⟩
      rcases hk with hk | hk
      · unfold lock
        simp only [hk]
        exact List.getElem?_set_ne (Ne.symm e)
      · unfold lock
        simp only [hk]
        exact List.getElem?_set_ne (Ne.symm e)
theorem lock_cs (g : Sg) : (lock l g).cs = g.cs := by
  unfold lock
  cases l with
  | none => rfl
  | some i => simp only; split <;> rfl
theorem lock_len (g : Sg) : (lock l g).rho.length = g.rho.length := by
  unfold lock
  cases l with
  | none => rfl
  | some i => simp only; split <;> first | rfl | exact List.length_set
theorem lock_cont {g : Sg} (h : LkOk g l) (p : Pl) : cont (lock l g) p = cont g p := by
  cases p with
  | fld n f => show ((lock l g).cs[n]?).bind _ = _; rw [lock_cs]; rfl
  | slot j =>
    show ((lock l g).rho[j]?).bind Sl.cont = (g.rho[j]?).bind Sl.cont
    rcases lock_rho h j with ⟨e, _⟩ | ⟨_, k, ⟨e1, e2⟩ | ⟨e1, e2⟩⟩
    · rw [e]
    · rw [e1, e2]; rfl
    · rw [e1, e2]; rfl
theorem lock_live {g : Sg} (h : LkOk g l) (q : PlX) : Live (lock l g) q ↔ Live g q := by
  cases q with
  | slot i => show (∃ k, cont _ _ = some k) ↔ ∃ k, cont _ _ = some k; rw [lock_cont h]
  | fld n f => show (∃ k, cont _ _ = some k) ↔ ∃ k, cont _ _ = some k; rw [lock_cont h]
  | ins n => show n < (lock l g).cs.length ↔ _; rw [lock_cs]; rfl
abbrev Cfg.lk (c : Cfg) (l : Option Nat) : Cfg := ⟨lock l c.g, c.S, c.H⟩
abbrev Cfg.ul (c : Cfg) (l : Option Nat) : Cfg := ⟨unlock l c.g, c.S, c.H⟩
theorem Ok.lk (ok : Ok X σ c) (h : LkOk c.g l) : Ok X σ (c.lk l) := ok.congr (lock_cs _) (lock_cont h) (fun i d hd => by
  rcases lock_rho h i with ⟨e, _⟩ | ⟨_, k, ⟨e1, e2⟩ | ⟨e1, e2⟩⟩
  · rw [← e]; exact hd
  · rw [e2] at hd; cases hd
  · rw [e2] at hd; cases hd) (lock_len _)
/-- the slots behind the loop -/
theorem unlock_rho {g' : Sg} (h : LkOk c.g l) (hs : ∀ (i : Nat) (b : Bool) (k : C), (lock l c.g).rho[i]? = some (Sl.lck b k) → g'.rho[i]? = some (Sl.lck b k)) (j : Nat) : ((unlock l g').rho[j]? = g'.rho[j]? ∧ l ≠ some j) ∨ (l = some j ∧ ∃ k, (c.g.rho[j]? = some (.own k) ∧ g'.rho[j]? = some (.lck false k) ∧ (unlock l g').rho[j]? = some (.own k)) ∨ (c.g.rho[j]? = some (.ref k) ∧ g'.rho[j]? = some (.lck true k) ∧ (unlock l g').rho[j]? = some (.ref k))) := by
  cases l with
  | none => exact .inl ⟨rfl, by simp⟩
  | some i =>
    have at_i : ∃ k, (c.g.rho[i]? = some (.own k) ∧ g'.rho[i]? = some (.lck false k)) ∨ (c.g.rho[i]? = some (.ref k) ∧ g'.rho[i]? = some (.lck true k)) := by
      rcases lock_rho h i with ⟨_, e⟩ | ⟨_, k, ⟨e1, e2⟩ | ⟨e1, e2⟩⟩
      · exact absurd rfl e
      · exact ⟨k, .inl ⟨e1, hs i _ _ e2⟩⟩
      · exact ⟨k, .inr ⟨e1, hs i _ _ e2⟩⟩
    obtain ⟨k, hk⟩ := at_i
    by_cases e : j = i
    · subst e
      refine .inr ⟨rfl, k, ?_⟩
      rcases hk with ⟨h1, h2⟩ | ⟨h1, h2⟩
      · refine .inl ⟨h1, h2, ?_⟩
        unfold unlock
        simp only [h2]
        exact List.getElem?_set_self (List.getElem?_eq_some_iff.mp h2).1
      · refine .inr ⟨h1, h2, ?_⟩
        unfold unlock
        simp only [h2]
        exact List.getElem?_set_self (List.getElem?_eq_some_iff.mp h2).1
    · refine .inl ⟨?_, by simpa using fun z => e z.symm⟩
      rcases hk with ⟨h1, h2⟩ | ⟨h1, h2⟩
      · unfold unlock
        simp only [h2]
        exact List.getElem?_set_ne (Ne.symm e)
      · unfold unlock
        simp only [h2]
        exact List.getElem?_set_ne (Ne.symm e)
theorem unlock_cs (g : Sg) : (unlock l g).cs = g.cs := by
  unfold unlock
  cases l with
  | none => rfl
  | some i => simp only; split <;> rfl
theorem unlock_len (g : Sg) : (unlock l g).rho.length = g.rho.length := by
  unfold unlock
  cases l with
  | none => rfl
  | some i => simp only; split <;> first | rfl | exact List.length_set
theorem unlock_ok (h : LkOk c.g l) (s : Step e (c.lk l) c2) (ok : Ok X σ c2) : Step e c (c2.ul l) ∧ Ok X σ (c2.ul l) ∧ ∀ q, Live (unlock l c2.g) q ↔ Live c2.g q := by
  have hs : ∀ (i : Nat) (b : Bool) (k : C), (lock l c.g).rho[i]? = some (Sl.lck b k) → c2.g.rho[i]? = some (Sl.lck b k) := fun i b k hk => (s.lck i b k hk).1
  have hct : ∀ p, cont (unlock l c2.g) p = cont c2.g p := by
    intro p
    cases p with
    | fld n f => show ((unlock l c2.g).cs[n]?).bind _ = _; rw [unlock_cs]; rfl
    | slot j =>
      show ((unlock l c2.g).rho[j]?).bind Sl.cont = (c2.g.rho[j]?).bind Sl.cont
      rcases unlock_rho h hs j with ⟨e, _⟩ | ⟨_, k, ⟨e1, e2, e3⟩ | ⟨e1, e2, e3⟩⟩
      · rw [e]
      · rw [e3, e2]; rfl
      · rw [e3, e2]; rfl
  have hlv : ∀ q, Live (unlock l c2.g) q ↔ Live c2.g q := by
    intro q
    cases q with
    | slot i => show (∃ k, cont _ _ = some k) ↔ ∃ k, cont _ _ = some k; rw [hct]
    | fld n f => show (∃ k, cont _ _ = some k) ↔ ∃ k, cont _ _ = some k; rw [hct]
    | ins n => show n < (unlock l c2.g).cs.length ↔ _; rw [unlock_cs]; rfl
  refine ⟨⟨s.G, s.nc, s.ia, s.trk, fun a o ho hp => s.fr a o ho fun q lq => hp q ((lock_live h q).mp lq), fun q lq => ?_, fun n f lf => ?_, fun he i li => ?_, fun i k hk => ?_, fun i b k hk => ?_, (unlock_len _).trans (s.rlen.trans (lock_len _))⟩, ok.congr (unlock_cs _) hct (fun i d hd => ?_) (unlock_len _), hlv⟩
  · rcases s.live q ((hlv q).mp lq) with ⟨q', lq', e⟩ | z
    · exact .inl ⟨q', (lock_live h q').mp lq', e⟩
    · exact .inr z
  · obtain ⟨q1, q2⟩ := s.fkeep n f ((lock_live h _).mpr lf)
    exact ⟨(hlv _).mpr q1, q2⟩
  · obtain ⟨q1, q2⟩ := s.slots he i ((hlv _).mp li)
    exact ⟨(lock_live h _).mp q1, q2⟩
  · rcases lock_rho h i with ⟨e1, e2⟩ | ⟨hi, k', ⟨e1, e2⟩ | ⟨e1, e2⟩⟩
    · obtain ⟨⟨k2, q1⟩, q2⟩ := s.ref i k (e1.trans hk)
      rcases unlock_rho h hs i with ⟨e3, _⟩ | ⟨e3, _⟩
      · exact ⟨⟨k2, by show (unlock l c2.g).rho[i]? = _; rw [e3]; exact q1⟩, q2⟩
      · exact absurd e3 e2
    · rw [hk] at e1; cases e1
    · obtain ⟨q1, q2⟩ := s.lck i true k' e2
      rcases unlock_rho h hs i with ⟨_, e3⟩ | ⟨_, k3, ⟨e3, _⟩ | ⟨e3, e4, e5⟩⟩
      · exact absurd hi e3
      · rw [hk] at e3; cases e3
      · exact ⟨⟨k3, e5⟩, q2⟩
  · rcases lock_rho h i with ⟨e1, e2⟩ | ⟨hi, k', ⟨e1, e2⟩ | ⟨e1, e2⟩⟩
    · obtain ⟨q1, q2⟩ := s.lck i b k (e1.trans hk)
      rcases unlock_rho h hs i with ⟨e3, _⟩ | ⟨e3, _⟩
      · exact ⟨by show (unlock l c2.g).rho[i]? = _; rw [e3]; exact q1, q2⟩
      · exact absurd e3 e2
    · rw [hk] at e1; cases e1
    · rw [hk] at e1; cases e1
  · rcases unlock_rho h hs i with ⟨e1, _⟩ | ⟨_, k', ⟨_, _, e2⟩ | ⟨_, _, e2⟩⟩
    · rw [← e1]; exact hd
    · have hd' : (unlock l c2.g).rho[i]? = some (.val d) := hd
      rw [e2] at hd'; cases hd'
    · have hd' : (unlock l c2.g).rho[i]? = some (.val d) := hd
      rw [e2] at hd'; cases hd'
/-- a result from an earlier origin: only what was tracked and live counts -/
theorem RR.back2 (ht : ∀ a, c0.H a ≠ none → c1.H a ≠ none) (hl : ∀ q, Live c1.g q → (∃ q', Live c0.g q' ∧ c1.S.adr q = c0.S.adr q') ∨ c0.H (c1.S.adr q) = none) : ∀ {r : Res} {v : V}, notBrw r = true → RR X c1 c2 r v → RR X c0 c2 r v
  | .val d, v, _, h => h
  | .fresh k, v, _, ⟨a, e, g, r, n, o⟩ => by
    refine ⟨a, e, g, r, n, ?_⟩
    rcases o with o | ⟨q, lq, e⟩
    · refine .inl ?_
      cases z : c0.H a with
      | none => rfl
      | some o' => exact absurd o (ht _ (by rw [z]; exact fun z => nomatch z))
    · rcases hl q lq with ⟨q', lq', e'⟩ | m
      · exact .inr ⟨q', lq', e'.symm.trans e⟩
      · exact .inl (by rw [← e]; exact m)
  | .brw p, v, nb, h => by cases nb
/-- the same in a state with the same live places -/
theorem RR.same {g2 : Sg} (hl : ∀ q, Live g2 q → Live c.g q) : ∀ {r : Res} {v : V}, notBrw r = true → RR X c0 c r v → RR X c0 ⟨g2, c.S, c.H⟩ r v
  | .val d, v, _, h => h
  | .fresh k, v, _, ⟨a, e, g, r, n, o⟩ => ⟨a, e, g, r, fun q lq => n q (hl q lq), o⟩
  | .brw p, v, nb, h => by cases nb
end
end Iv
set_option linter.all false
set_option autoImplicit false
set_option maxRecDepth 100000
set_option maxHeartbeats 1000000
/-! Iv22: what a loop walks; for, while. -/
namespace Iv
open PySem (Str Expr Stmt CmpOp Operator BoolOp PyData Addr Value Scope Env Pos)
open L2 (V HO Hp upd upd_same upd_ne ne_of ne_of_none SqL SqT Rd Same WX TE TT TA TS TG TGs TI PE PT PA PS PSs PC PW PG PGs PI R2 OpR Cx CallR XK Ends TSet)

section
variable (X : Tx) (W : WX) (σ : L2.St)
/-- J yields the items ds from c1 on, the slot l walked -/
def Serves (e : Bool) (c1 : Cfg) (ds : List D) (l : Option Nat) (J : L2.It) : Prop := LkOk c1.g l ∧ ∀ σ' c2, Step false (c1.lk l) c2 → Ok X σ' c2 → ∀ j,
  (∀ d, ds[j]? = some d → J.go j c2.H ∧ ∀ x H', J.yld j c2.H x H' → ∃ c3, c3.g = c2.g ∧ c3.H = H' ∧ Step true c2 c3 ∧ Ok X σ' c3 ∧ R X c3.S d x) ∧ (j = ds.length → J.stop j c2.H)
def PostI (c0 : Cfg) (r : Out (List D × Option Nat) × Sg) (Rr : L2.It → Hp → Prop) : Prop :=
  (∀ p, r.1 = .ok p → ∀ c1 J, c1.g = r.2 → Step true c0 c1 → Ok X σ c1 → Serves X true c1 p.1 p.2 J → Rr J c1.H) ∧ PostX X W σ c0 r
def tIt (f : M (List D × Option Nat)) : TI := fun σ H Rr => ∃ c r, c.H = H ∧ Ok X σ c ∧ f c.g = some r ∧ PostI X W σ c r Rr
end
section
variable {α β : Type} {X : Tx} {W : WX} {σ : L2.St} {Rel : Cfg → Cfg → α → β → Prop} {c c0 c1 : Cfg} {r : Out (List D × Option Nat) × Sg} {Rr : L2.It → Hp → Prop}
theorem PostI.shift (s : Step true c0 c1) (h : PostI X W σ c0 r Rr) : PostI X W σ c1 r Rr := ⟨fun p hp c J hg st ok sv => h.1 p hp c J hg (s.trans st) ok sv, h.2.shift s⟩
theorem tM_bndI {m : M α} {k : α → M (List D × Option Nat)} {Q1 : β → Hp → Prop} (ok : Ok X σ c) (h : bnd m k c.g = some r) (p : PostI X W σ c r Rr)
    (hk : ∀ a v c1, Step true c c1 → Ok X σ c1 → Rel c c1 a v → k a c1.g = some r → Q1 v c1.H) : tM X W Rel m σ c.H Q1 := by
  cases hm : m c.g with
  | none => rw [bnd_none hm] at h; cases h
  | some z =>
    obtain ⟨o, g1⟩ := z
    refine ⟨c, (o, g1), rfl, ok, hm, ?_, ?_⟩
    · rintro a ha v c1 hg st ok1 rel
      subst ha
      have hg' : c1.g = g1 := hg
      subst hg'
      rw [bnd_ok hm] at h
      exact hk a v c1 st ok1 rel h
    · rintro x hx cls dx c1 hg st ok1 rx
      subst hx
      rw [bnd_exc hm] at h
      cases h
      exact p.2 x rfl cls dx c1 hg st ok1 rx
theorem serves_list {a : Addr} {ds : List D} {l : Option Nat} (hl : LkOk c1.g l) (h : ∀ σ' c2, Step false (c1.lk l) c2 → Ok X σ' c2 → ∃ xs, SqL X.K c2.H a xs ∧ RL X c2.S ds xs) : Serves X true c1 ds l (L2.Itl X.K a) := by
  refine ⟨hl, fun σ' c2 st ok j => ⟨fun d hd => ?_, fun e => ?_⟩⟩
  · obtain ⟨xs, hx, rl⟩ := h σ' c2 st ok
    obtain ⟨v, hv, rv⟩ := rl.get hd
    refine ⟨⟨xs, v, hx, hv⟩, fun x H' y => ?_⟩
    obtain ⟨rfl, y⟩ := y
    have := y xs hx
    rw [hv] at this
    cases this
    exact ⟨c2, rfl, rfl, Step.refl, ok, rv⟩
  · obtain ⟨xs, hx, rl⟩ := h σ' c2 st ok
    exact ⟨xs, hx, by rw [rl.length, e]; exact Nat.le_refl _⟩
theorem serves_tup {a : Addr} {ds : List D} {l : Option Nat} (hl : LkOk c1.g l) (h : ∀ σ' c2, Step false (c1.lk l) c2 → Ok X σ' c2 → ∃ xs, SqT X.K c2.H a xs ∧ RL X c2.S ds xs) : Serves X true c1 ds l (L2.Itt X.K a) := by
  refine ⟨hl, fun σ' c2 st ok j => ⟨fun d hd => ?_, fun e => ?_⟩⟩
  · obtain ⟨xs, hx, rl⟩ := h σ' c2 st ok
    obtain ⟨v, hv, rv⟩ := rl.get hd
    refine ⟨⟨xs, v, hx, hv⟩, fun x H' y => ?_⟩
    obtain ⟨rfl, y⟩ := y
    have := y xs hx
    rw [hv] at this
    cases this
    exact ⟨c2, rfl, rfl, Step.refl, ok, rv⟩
  · obtain ⟨xs, hx, rl⟩ := h σ' c2 st ok
    exact ⟨xs, hx, by rw [rl.length, e]; exact Nat.le_refl _⟩
theorem serves_range {lo : Int} {n : Nat} : Serves X true c1 ((List.range n).map fun (i : Nat) => D.int (lo + (i : Int))) none (L2.Itr lo n) := by
  refine ⟨fun i hi => (nomatch hi), fun σ' c2 st ok j => ⟨fun d hd => ?_, fun e => ?_⟩⟩
  · rw [List.getElem?_map] at hd
    obtain ⟨i, hi, rfl⟩ := Option.map_eq_some_iff.mp hd
    obtain ⟨hj, e⟩ := List.getElem?_eq_some_iff.mp hi
    simp only [List.getElem_range] at e
    subst e
    rw [List.length_range] at hj
    refine ⟨hj, fun x H' y => ?_⟩
    obtain ⟨rfl, rfl⟩ := y
    exact ⟨c2, rfl, rfl, Step.refl, ok, r_int _⟩
  · rw [List.length_map, List.length_range] at e
    exact Nat.le_of_eq e.symm
end
section
variable {X : Cx} {tg : Expr}
def iSeq (K : PySem.W.Frag) (tl : TE) : TI := fun σ H Rr => tl σ H fun x H1 => ∃ a, x = .ref a ∧ (((∃ xs, SqL K H1 a xs) ∧ Rr (L2.Itl K a) H1) ∨ ((∃ xs, SqT K H1 a xs) ∧ Rr (L2.Itt K a) H1))
theorem pi_seq {l : Expr} {tl : TE} (hl : PE X l tl) : PI X tg l (iSeq X.K tl) := by
  refine ⟨fun pins s σ H Rr I h => ?_⟩
  refine L2.thn (hl.run pins s σ H _ I h) fun v s1 ⟨x, H1, I1, r1, a, e, q1⟩ => ?_
  subst e
  cases r1
  have fp : ∀ b ∈ [s1.heap.objs.size], L2.FpOk X pins H1 b := fun b hb => by
    have e : b = s1.heap.objs.size := by simpa using hb
    subst e
    exact I1.fpOk (Nat.le_refl _) (I1.hok.fresh (Nat.le_refl _))
  rcases q1 with ⟨⟨xs, hq⟩, q⟩ | ⟨⟨xs, hq⟩, q⟩
  · obtain ⟨its, rv, pl, hz⟩ := I1.list hq
    refine PySem.wpAny_pyIter_list pl.isList ?_
    exact ⟨s1.heap.objs.size, [s1.heap.objs.size], _, _, H1, rfl, I1.kept (t' := s1.toks) fun b o e => PySem.Heap.get?_push_of_some _ e, L2.turn_list a _, ⟨_, PySem.Heap.get?_push_size _ rfl, rfl, rfl⟩, fp, q⟩
  · obtain ⟨its, rv, pl, hz⟩ := I1.tuple hq
    refine PySem.wpAny_pyIter_tuple (show s1.heap.IsTuple a its.toArray from pl) ?_
    exact ⟨s1.heap.objs.size, [s1.heap.objs.size], _, _, H1, rfl, I1.kept (t' := s1.toks) fun b o e => PySem.Heap.get?_push_of_some _ e, L2.turn_tuple a _, ⟨_, PySem.Heap.get?_push_size _ rfl, rfl, rfl⟩, fp, q⟩
end
theorem rl_ints {T : Tx} {S : Gh} : ∀ ns : List Int, RL T S (ns.map D.int) (ns.map V.int)
  | [] => by simp [RL]
  | n :: ns => by simp only [List.map_cons, RL]; exact ⟨_, _, rfl, r_int _, rl_ints ns⟩
section
variable {X : Cx} {P : Pg} {W : WX} {tg e a b : Expr} {pos p : Pos} {t ta tb : T}
abbrev PIf (X : Cx) (W : WX) (tg e : Expr) (f : M (List D × Option Nat)) : Prop := PI X tg e (tIt (tx X) W f)
theorem PI.imp {wi wi' : TI} (h : PI X tg e wi) (i : ∀ σ H Rr, wi' σ H Rr → wi σ H Rr) : PI X tg e wi' := ⟨fun pins s σ H Rr I hw => h.run pins s σ H Rr I (i σ H Rr hw)⟩
theorem ri_seq (ht : PEf X W e (ev P t)) : PIf X W tg e (items P (.seq t)) := by
  refine PI.imp (pi_seq ht) ?_
  rintro σ H Rr ⟨c, r, rfl, ok, h, p⟩
  simp only [items] at h
  refine tM_bndI ok h p fun x v c1 s1 ok1 rr1 h1 => ?_
  obtain ⟨y, hy, rfl⟩ := liftO_some h1
  split at hy
  case h_2 => cases hy
  rename_i ds l hds hlk
  cases hy
  obtain ⟨d, hd, hsd⟩ := Option.bind_eq_some_iff.mp hds
  cases x with
  | val d' =>
    cases hlk
    cases hd
    have nl : LkOk c1.g none := fun i hi => (nomatch hi)
    cases d with
    | lst ds' =>
      cases hsd
      have h' : R (tx X) c1.S (.lst ds) v := rr1
      simp only [R] at h'
      obtain ⟨a, xs, rfl, g, rl⟩ := h'
      refine ⟨a, rfl, .inl ⟨⟨xs, SqL.of (ok1.sub _ _ g)⟩, p.1 _ rfl c1 _ rfl s1 ok1 (serves_list nl fun σ' c2 st ok2 => ?_)⟩⟩
      exact ⟨xs, SqL.of (ok2.sub _ _ (st.G _ _ g)), RL.mono st.ge ds rl⟩
    | tup ds' =>
      cases hsd
      have h' : R (tx X) c1.S (.tup ds) v := rr1
      simp only [R] at h'
      obtain ⟨a, xs, rfl, g, rl⟩ := h'
      refine ⟨a, rfl, .inr ⟨⟨xs, SqT.of (ok1.sub _ _ g)⟩, p.1 _ rfl c1 _ rfl s1 ok1 (serves_tup nl fun σ' c2 st ok2 => ?_)⟩⟩
      exact ⟨xs, SqT.of (ok2.sub _ _ (st.G _ _ g)), RL.mono st.ge ds rl⟩
    | scr ns =>
      cases hsd
      have h' : R (tx X) c1.S (.scr ns) v := rr1
      simp only [R] at h'
      obtain ⟨a, rfl, g⟩ := h'
      have rl : ∀ S, RL (tx X) S (ns.map D.int) (ns.map V.int) := fun S => rl_ints ns
      refine ⟨a, rfl, .inl ⟨⟨_, sql_mono ok1.sub g⟩, p.1 _ rfl c1 _ rfl s1 ok1 (serves_list nl fun σ' c2 st ok2 => ?_)⟩⟩
      exact ⟨_, sql_mono (fun a o h => ok2.sub _ _ (st.G _ _ h)) g, rl _⟩
    | _ => cases hsd
  | fresh k =>
    cases hlk
    cases k with
    | lst ds' =>
      cases hd
      cases hsd
      obtain ⟨c2, hg, hH, s2, ok2, r2⟩ := take_ok s1 ok1 rr1 rfl
      have nl : LkOk c2.g none := fun i hi => (nomatch hi)
      simp only [R] at r2
      obtain ⟨a, xs, rfl, g, rl⟩ := r2
      rw [← hH]
      refine ⟨a, rfl, .inl ⟨⟨xs, SqL.of (ok2.sub _ _ g)⟩, p.1 _ rfl c2 _ hg s2 ok2 (serves_list nl fun σ' c3 st ok3 => ?_)⟩⟩
      exact ⟨xs, SqL.of (ok3.sub _ _ (st.G _ _ g)), RL.mono st.ge ds rl⟩
    | _ => cases hd
  | brw pl =>
    cases pl with
    | fld n f => cases hlk
    | slot i =>
      obtain ⟨k, hk, hv⟩ := Option.bind_eq_some_iff.mp (show (cont c1.g (.slot i)).bind C.view = some d from hd)
      cases k with
      | lst ds' =>
        cases hv
        cases hsd
        have hv' := rr1.1 (live_at hk)
        subst hv'
        obtain ⟨_, xs, hx, rl⟩ := cont_at ok1 hk
        refine ⟨_, rfl, .inl ⟨⟨xs, SqL.of hx⟩, ?_⟩⟩
        unfold lockOf at hlk
        simp only at hlk
        have nl : LkOk c1.g l := by
          split at hlk
          · rename_i k' hk'; cases hlk; intro j hj; cases hj; exact ⟨k', .inl hk'⟩
          · rename_i k' hk'; cases hlk; intro j hj; cases hj; exact ⟨k', .inr hk'⟩
          · cases hlk; intro j hj; cases hj
          · cases hlk
        refine p.1 _ rfl c1 _ rfl s1 ok1 (serves_list nl fun σ' c2 st ok2 => ?_)
        -- the slot is locked
        have hlck : ∃ b, (lock l c1.g).rho[i]? = some (.lck b (.lst ds)) := by
          have hc : (c1.g.rho[i]?).bind Sl.cont = some (.lst ds) := hk
          split at hlk
          · rename_i k' hk'
            cases hlk
            rw [hk'] at hc
            cases hc
            rcases lock_rho nl i with ⟨_, e⟩ | ⟨_, k2, ⟨e1, e2⟩ | ⟨e1, e2⟩⟩
            · exact absurd rfl e
            · rw [hk'] at e1; cases e1; exact ⟨_, e2⟩
            · rw [hk'] at e1; cases e1
          · rename_i k' hk'
            cases hlk
            rw [hk'] at hc
            cases hc
            rcases lock_rho nl i with ⟨_, e⟩ | ⟨_, k2, ⟨e1, e2⟩ | ⟨e1, e2⟩⟩
            · exact absurd rfl e
            · rw [hk'] at e1; cases e1
            · rw [hk'] at e1; cases e1; exact ⟨_, e2⟩
          · rename_i b k' hk'
            cases hlk
            rw [hk'] at hc
            cases hc
            exact ⟨b, hk'⟩
          · cases hlk
        obtain ⟨b, hb⟩ := hlck
        obtain ⟨q1, q2⟩ := st.lck i b _ hb
        obtain ⟨_, _, xs2, hx2, rl2⟩ := ok2.own i (.lst ds) (by show (c2.g.rho[i]?).bind Sl.cont = _; rw [q1]; rfl)
        have q2' : c2.S.adr (.slot i) = c1.S.adr (.slot i) := q2
        exact ⟨xs2, SqL.of (show c2.H (c1.S.adr (.slot i)) = _ by rw [← q2']; exact hx2), rl2⟩
      | _ => cases hv
theorem ri_rng1 (hg : L2.Gl X "range") (hm : X.mg "range" = none) (hs : noStar a = true) (ha : PEf X W a (ev P ta)) : PIf X W tg (.Call (.Name "range" p) [a] [] pos) (items P (.rng1 ta)) := by
  have h1 : PySem.starEach [a] X.env = [(false, PySem.eval a X.env)] := star_env hs
  have hes : PA X [a] (L2.tCons (tE (tx X) W (ev P ta)) L2.tNil) := L2.pa_cons ha L2.pa_nil h1
  refine PI.imp (L2.pi_range1 hg hm hes h1) ?_
  rintro σ H Rr ⟨c, r, rfl, ok, h, p⟩
  simp only [items] at h
  refine tM_bndI ok h p fun x v c1 s1 ok1 rr1 h1 => ?_
  obtain ⟨y, hy, rfl⟩ := liftO_some h1
  split at hy
  case h_2 => cases hy
  rename_i n hd
  obtain ⟨ds, hds, rfl⟩ := Option.map_eq_some_iff.mp hy
  unfold rngD at hds
  split at hds
  case isFalse => cases hds
  rename_i hb
  cases hds
  have e := top_int (view_ok ok1 rr1 hd)
  subst e
  refine ⟨n, rfl, by omega, by omega, ?_⟩
  have q := p.1 _ rfl c1 (L2.Itr 0 (n - 0).toNat) rfl s1 ok1 serves_range
  rw [Int.sub_zero] at q
  exact q
theorem ri_rng2 (hg : L2.Gl X "range") (hm : X.mg "range" = none) (hsa : noStar a = true) (hsb : noStar b = true) (ha : PEf X W a (ev P ta)) (hb : PEf X W b (ev P tb)) : PIf X W tg (.Call (.Name "range" p) [a, b] [] pos) (items P (.rng2 ta tb)) := by
  have h1 : PySem.starEach [a, b] X.env = [(false, PySem.eval a X.env), (false, PySem.eval b X.env)] := by rw [star_env hsa, star_env hsb]; rfl
  have h2 : PySem.starEach [b] X.env = [(false, PySem.eval b X.env)] := star_env hsb
  have hes : PA X [a, b] (L2.tCons (tE (tx X) W (ev P ta)) (L2.tCons (tE (tx X) W (ev P tb)) L2.tNil)) := L2.pa_cons ha (L2.pa_cons hb L2.pa_nil h2) (star_env hsa)
  refine PI.imp (L2.pi_range2 hg hm hes h1 h2) ?_
  rintro σ H Rr ⟨c, r, rfl, ok, h, p⟩
  simp only [items] at h
  refine tM_bndI ok h p fun x v c1 s1 ok1 rr1 h1 => ?_
  refine tM_bndI ok1 h1 (p.shift s1) fun y w c2 s2 ok2 rr2 h2 => ?_
  obtain ⟨y, hy, rfl⟩ := liftO_some h2
  split at hy
  case h_2 => cases hy
  rename_i m n hd he
  obtain ⟨ds, hds, rfl⟩ := Option.map_eq_some_iff.mp hy
  unfold rngD at hds
  split at hds
  case isFalse => cases hds
  rename_i hb
  cases hds
  have e1 := top_int (view_ok ok2 (rr1.mono s2) hd)
  have e2 := top_int (view_ok ok2 rr2 he)
  subst e1 e2
  exact ⟨m, n, rfl, by omega, p.1 _ rfl c2 (L2.Itr m (n - m).toNat) rfl (s1.trans s2) ok2 serves_range⟩
end
section
variable {X : Cx} {P : Pg} {W : WX} {te iter ec : Expr} {body : List Stmt} {pos : Pos} {tg : Tg} {it : It} {t : T} {sb : Ss}
theorem rs_for (hp : PySem.PassesOwn (PySem.model X.prog X.w) X.A X.env X.xe) (hc : X.calm = true) (hi : PIf X W te iter (items P it)) (hg : PG X te (gTg X.K tg)) (hb : PSsf X W body (exs P sb)) (hs : ∀ x, PySem.foldedSetIterable iter X.env x = pure x) :
    PSf X W (.For te iter body [] pos) (ex P (.for_ tg it sb)) := by
  refine PS.imp (L2.ps_for hp hc hi hg hb hs) ?_
  rintro D σ H ⟨c, r, rfl, ok, h, p⟩
  simp only [ex] at h
  -- the items
  cases hm : items P it c.g with
  | none => rw [bnd_none hm] at h; cases h
  | some z =>
  obtain ⟨o, g1⟩ := z
  refine ⟨c, (o, g1), rfl, ok, hm, ?_, ?_⟩
  case refine_2 =>
    intro x hx cls dx c1 hg1 st ok1 rx
    have hx' : o = .exc x := hx
    subst hx'
    rw [bnd_exc hm] at h
    cases h
    exact p.2 x rfl cls dx σ c1 hg1 st.weak ok1 rx
  rintro ⟨ds, l⟩ ho c1 J hg1 s1 ok1 sv
  have ho' : o = .ok (ds, l) := ho
  subst ho'
  have hg1' : c1.g = g1 := hg1
  subst hg1'
  rw [bnd_ok hm] at h
  simp only at h
  obtain ⟨nl, sv⟩ := sv
  -- the loop
  cases hlp : loopS tg (exs P sb) ds (lock l c1.g) with
  | none => rw [hlp] at h; cases h
  | some z =>
  obtain ⟨o, g'⟩ := z
  rw [hlp] at h
  cases h
  -- a state of the loop, left
  have leave : ∀ {σ' c'}, Step false (c1.lk l) c' → Ok (tx X) σ' c' → Step false c (c'.ul l) ∧ Ok (tx X) σ' (c'.ul l) ∧ ∀ q, Live (unlock l c'.g) q ↔ Live c'.g q := by
    intro σ' c' st ok'
    obtain ⟨q1, q2, q3⟩ := unlock_ok nl st ok'
    exact ⟨s1.weak.trans q1, q2, q3⟩
  refine ⟨fun j m σ H => ∃ c2, c2.H = H ∧ Step false (c1.lk l) c2 ∧ Ok (tx X) σ c2 ∧ j + m = ds.length ∧ loopS tg (exs P sb) (ds.drop j) c2.g = some (o, g'), ⟨ds.length, c1.lk l, rfl, Step.refl, ok1.lk nl, by omega, by rw [List.drop_zero]; exact hlp⟩, ?_⟩
  rintro j m σ2 H2 ⟨c2, rfl, st2, ok2, hjm, hlp2⟩
  cases m with
  | zero =>
    refine .inl ⟨(sv σ2 c2 st2 ok2 j).2 (by omega), ?_⟩
    rw [List.drop_of_length_le (by omega)] at hlp2
    unfold loopS at hlp2
    cases hlp2
    obtain ⟨q1, q2, q3⟩ := leave st2 ok2
    exact p.1 .next rfl σ2 (c2.ul l) rfl q1 q2
  | succ m =>
    have hj : j < ds.length := by omega
    obtain ⟨hgo, hy⟩ := (sv σ2 c2 st2 ok2 j).1 ds[j] (List.getElem?_eq_getElem hj)
    rw [List.drop_eq_getElem_cons hj] at hlp2
    unfold loopS at hlp2
    refine .inr ⟨hgo, fun σ H => ∃ m', m' < m + 1 ∧ ∃ c2, c2.H = H ∧ Step false (c1.lk l) c2 ∧ Ok (tx X) σ c2 ∧ j + 1 + m' = ds.length ∧ loopS tg (exs P sb) (ds.drop (j + 1)) c2.g = some (o, g'), fun σ' H' h => h, fun x H' yd => ?_⟩
    obtain ⟨c3, hg3, rfl, st3, ok3, rx⟩ := hy x H' yd
    split at hlp2
    · cases hlp2
    rename_i g4 hb4
    rw [← hg3] at hb4
    obtain ⟨σ4, st4', ok4, _, _, q4⟩ := bind_ok ok3 rx hb4
    have st4 := st4'.weak (e := false)
    refine q4 _ ?_
    have stL4 : Step false (c1.lk l) ⟨g4, c3.S, c3.H⟩ := st2.trans (st3.weak.trans st4)
    -- the body
    cases hbd : exs P sb g4 with
    | none => rw [bnd_none hbd] at hlp2; cases hlp2
    | some z =>
    obtain ⟨o5, g5⟩ := z
    refine ⟨⟨g4, c3.S, c3.H⟩, (o5, g5), rfl, ok4, hbd, ?_, ?_⟩
    · intro fl hfl σ5 c5 hg5 st5 ok5
      have hfl' : o5 = .ok fl := hfl
      subst hfl'
      have hg5' : c5.g = g5 := hg5
      subst hg5'
      rw [bnd_ok hbd] at hlp2
      have stL5 := stL4.trans st5
      cases fl with
      | next => exact ⟨m, Nat.lt_succ_self _, c5, rfl, stL5, ok5, by omega, hlp2⟩
      | cnt => exact ⟨m, Nat.lt_succ_self _, c5, rfl, stL5, ok5, by omega, hlp2⟩
      | brk =>
        cases hlp2
        obtain ⟨q1, q2, q3⟩ := leave stL5 ok5
        exact p.1 .next rfl σ5 (c5.ul l) rfl q1 q2
      | ret a =>
        cases hlp2
        obtain ⟨q1, q2, q3⟩ := leave stL5 ok5
        obtain ⟨nb, q5⟩ := p.1 (.ret a) rfl σ5 (c5.ul l) rfl q1 q2
        refine ⟨nb, fun v rr => q5 v ?_⟩
        have rr2 : RR (tx X) (c1.lk l) c5 a v := rr.back stL4
        have rr3 : RR (tx X) c1 c5 a v := RR.back2 (c0 := c1) (c1 := c1.lk l) (fun a h => h) (fun q lq => .inl ⟨q, (lock_live nl q).mp lq, rfl⟩) nb rr2
        exact RR.same (fun q lq => (q3 q).mp lq) nb (rr3.back s1)
    · intro x hx cls dx σ5 c5 hg5 st5 ok5 rx5
      have hx' : o5 = .exc x := hx
      subst hx'
      have hg5' : c5.g = g5 := hg5
      subst hg5'
      rw [bnd_exc hbd] at hlp2
      cases hlp2
      obtain ⟨q1, q2, q3⟩ := leave (stL4.trans st5) ok5
      exact p.2 x rfl cls dx σ5 (c5.ul l) rfl q1 q2 rx5
theorem rs_whl {n : Nat} (hp : PySem.PassesOwn (PySem.model X.prog X.w) X.A X.env X.xe) (hc : PTf X W ec (tst P t)) (hb : PSsf X W body (exs P sb)) : PSf X W (.While ec body [] pos) (ex P (.whl n t sb)) := by
  refine PS.imp (L2.ps_while hp hc hb) ?_
  rintro D σ H ⟨c, r, rfl, ok, h, p⟩
  simp only [ex] at h
  obtain ⟨o, g'⟩ := r
  refine ⟨fun m σ H => ∃ c2, c2.H = H ∧ Step false c c2 ∧ Ok (tx X) σ c2 ∧ loopW (tst P t) (exs P sb) m c2.g = some (o, g'), ⟨n, c, rfl, Step.refl, ok, h⟩, ?_⟩
  rintro m σ2 H2 ⟨c2, rfl, st2, ok2, hlp2⟩
  cases m with
  | zero => cases hlp2
  | succ m =>
    unfold loopW at hlp2
    refine tM_bndS ok2 hlp2 (p.2.shift st2) fun b v c3 st3 ok3 rb h3 => ?_
    cases rb
    have stL3 : Step false c c3 := st2.trans st3.weak
    cases b with
    | false =>
      rw [if_neg Bool.false_ne_true]
      rw [if_neg Bool.false_ne_true] at h3
      cases h3
      exact p.1 .next rfl σ2 c3 rfl stL3 ok3
    | true =>
      rw [if_pos rfl]
      rw [if_pos rfl] at h3
      refine ⟨fun σ H => ∃ m', m' < m + 1 ∧ ∃ c2, c2.H = H ∧ Step false c c2 ∧ Ok (tx X) σ c2 ∧ loopW (tst P t) (exs P sb) m' c2.g = some (o, g'), fun σ' H' h => h, ?_⟩
      cases hbd : exs P sb c3.g with
      | none => rw [bnd_none hbd] at h3; cases h3
      | some z =>
      obtain ⟨o5, g5⟩ := z
      refine ⟨c3, (o5, g5), rfl, ok3, hbd, ?_, ?_⟩
      · intro fl hfl σ5 c5 hg5 st5 ok5
        have hfl' : o5 = .ok fl := hfl
        subst hfl'
        have hg5' : c5.g = g5 := hg5
        subst hg5'
        rw [bnd_ok hbd] at h3
        have stL5 := stL3.trans st5
        cases fl with
        | next => exact ⟨m, Nat.lt_succ_self _, c5, rfl, stL5, ok5, h3⟩
        | cnt => exact ⟨m, Nat.lt_succ_self _, c5, rfl, stL5, ok5, h3⟩
        | brk => cases h3; exact p.1 .next rfl σ5 c5 rfl stL5 ok5
        | ret a =>
          cases h3
          obtain ⟨nb, q5⟩ := p.1 (.ret a) rfl σ5 c5 rfl stL5 ok5
          exact ⟨nb, fun v rr => q5 v (rr.back stL3)⟩
      · intro x hx cls dx σ5 c5 hg5 st5 ok5 rx5
        have hx' : o5 = .exc x := hx
        subst hx'
        have hg5' : c5.g = g5 := hg5
        subst hg5'
        rw [bnd_exc hbd] at h3
        cases h3
        exact p.2 x rfl cls dx σ5 c5 rfl (stL3.trans st5) ok5 rx5
end
end Iv
set_option linter.all false
set_option autoImplicit false
set_option maxRecDepth 100000
set_option maxHeartbeats 1000000
/-! Iv23: list comprehensions. -/
namespace Iv
open PySem (Str Expr Stmt CmpOp Operator BoolOp PyData Addr Value Scope Env Pos)
open L2 (V HO Hp upd upd_same upd_ne ne_of ne_of_none SqL SqT Rd Same WX TE TT TA TS TG TGs TI PE PT PA PS PSs PC PW PG PGs PI R2 OpR Cx CallR XK Ends TSet)

section
variable {X : Tx} {σ σ2 : L2.St} {c c0 c1 c2 cL : Cfg}
theorem wipeS_len (rho : List Sl) : ∀ vs : List Nat, (wipeS rho vs).length = rho.length
  | [] => rfl
  | v :: vs => by unfold wipeS; rw [List.length_set, wipeS_len rho vs]
theorem wipeS_get {rho : List Sl} {j : Nat} : ∀ {vs : List Nat}, (wipeS rho vs)[j]? = if j ∈ vs ∧ j < rho.length then some .un else rho[j]?
  | [] => by simp [wipeS]
  | v :: vs => by
    unfold wipeS
    by_cases e : j = v
    · subst e
      by_cases h : j < rho.length
      · rw [if_pos ⟨List.mem_cons_self .., h⟩]
        exact List.getElem?_set_self (by rw [wipeS_len]; exact h)
      · rw [if_neg (fun z => h z.2), List.getElem?_eq_none (by rw [List.length_set, wipeS_len]; omega), List.getElem?_eq_none (by omega)]
    · rw [List.getElem?_set_ne (Ne.symm e), wipeS_get]
      by_cases h : j ∈ vs ∧ j < rho.length
      · rw [if_pos h, if_pos ⟨List.mem_cons_of_mem _ h.1, h.2⟩]
      · rw [if_neg h, if_neg (fun z => h ⟨(List.mem_cons.mp z.1).resolve_left e, z.2⟩)]
theorem backS_len (old rho : List Sl) : ∀ vs : List Nat, (backS old rho vs).length = rho.length
  | [] => rfl
  | v :: vs => by unfold backS; rw [List.length_set, backS_len old rho vs]
theorem backS_get {old rho : List Sl} (hl : old.length = rho.length) {j : Nat} : ∀ {vs : List Nat}, (backS old rho vs)[j]? = if j ∈ vs then old[j]? else rho[j]?
  | [] => by simp [backS]
  | v :: vs => by
    unfold backS
    by_cases e : j = v
    · subst e
      rw [if_pos (List.mem_cons_self ..)]
      by_cases h : j < rho.length
      · rw [List.getElem?_set_self (by rw [backS_len]; exact h), List.getElem?_eq_getElem (by omega), List.getD_eq_getElem?_getD, List.getElem?_eq_getElem (show j < old.length by omega), Option.getD_some]
      · rw [List.getElem?_eq_none (by rw [List.length_set, backS_len]; omega), List.getElem?_eq_none (by omega)]
    · rw [List.getElem?_set_ne (Ne.symm e), backS_get hl]
      by_cases h : j ∈ vs
      · rw [if_pos h, if_pos (List.mem_cons_of_mem _ h)]
      · rw [if_neg h, if_neg (fun z => h ((List.mem_cons.mp z).resolve_left e))]
theorem wipe_get {σ : L2.St} {j : Nat} : ∀ {vs : List Nat}, j ∉ vs → (L2.wipe σ vs)[j]? = σ[j]?
  | [], _ => rfl
  | v :: vs, h => by
    unfold L2.wipe
    rw [List.getElem?_set_ne (fun z => h (by rw [z]; exact List.mem_cons_self ..))]
    exact wipe_get fun z => h (List.mem_cons_of_mem _ z)
theorem wipe_in {σ : L2.St} {j : Nat} : ∀ {vs : List Nat}, j ∈ vs → (L2.wipe σ vs)[j]? = if j < σ.length then some none else none
  | v :: vs, h => by
    unfold L2.wipe
    by_cases e : j = v
    · subst e
      by_cases hl : j < σ.length
      · rw [if_pos hl]; exact List.getElem?_set_self (by rw [L2.wipe_length]; exact hl)
      · rw [if_neg hl]; exact List.getElem?_eq_none (by rw [List.length_set, L2.wipe_length]; omega)
    · rw [List.getElem?_set_ne (Ne.symm e)]
      exact wipe_in ((List.mem_cons.mp h).resolve_left e)
/-- two states that agree but at vs are wiped to the same -/
theorem wipe_eq {vs : List Nat} (hl : σ2.length = σ.length) (h : ∀ j, j ∉ vs → σ2[j]? = σ[j]?) : L2.wipe σ2 vs = L2.wipe σ vs := by
  apply List.ext_getElem?
  intro j
  by_cases e : j ∈ vs
  · rw [wipe_in e, wipe_in e, hl]
  · rw [wipe_get e, wipe_get e]; exact h j e
/-- slots that hold no container are forgotten -/
theorem wipe_ok {vs : List Nat} (ok : Ok X σ c) (h : ∀ i ∈ vs, ¬ Live c.g (.slot i)) : Step true c ⟨{ c.g with rho := wipeS c.g.rho vs }, c.S, c.H⟩ ∧ Ok X (L2.wipe σ vs) ⟨{ c.g with rho := wipeS c.g.rho vs }, c.S, c.H⟩ := by
  have hct : ∀ p, cont { c.g with rho := wipeS c.g.rho vs } p = cont c.g p := by
    intro p
    cases p with
    | fld n f => rfl
    | slot j =>
      show ((wipeS c.g.rho vs)[j]?).bind Sl.cont = (c.g.rho[j]?).bind Sl.cont
      rw [wipeS_get]
      by_cases e : j ∈ vs ∧ j < c.g.rho.length
      · rw [if_pos e]
        have hn := h j e.1
        cases hk : (c.g.rho[j]?).bind Sl.cont with
        | none => rfl
        | some k => exact absurd ⟨k, hk⟩ hn
      · rw [if_neg e]
  have hlv : ∀ q, Live { c.g with rho := wipeS c.g.rho vs } q ↔ Live c.g q := by
    intro q
    cases q with
    | slot i => show (∃ k, cont _ _ = some k) ↔ ∃ k, cont _ _ = some k; rw [hct]
    | fld n f => show (∃ k, cont _ _ = some k) ↔ ∃ k, cont _ _ = some k; rw [hct]
    | ins n => exact Iff.rfl
  have keep : ∀ (j : Nat) (s : Sl), c.g.rho[j]? = some s → s.cont ≠ none → (wipeS c.g.rho vs)[j]? = some s := by
    intro j s hj hs
    rw [wipeS_get, if_neg]
    · exact hj
    · intro z
      obtain ⟨k, hk⟩ := Option.ne_none_iff_exists'.mp hs
      exact h j z.1 ⟨k, by show (c.g.rho[j]?).bind Sl.cont = _; rw [hj]; exact hk⟩
  refine ⟨⟨fun _ _ h => h, Nat.le_refl _, fun _ _ => rfl, fun _ h => h, fun _ _ h _ => ⟨h, fun _ => rfl⟩, fun q lq => .inl ⟨q, (hlv q).mp lq, rfl⟩, fun n f lf => ⟨(hlv _).mpr lf, rfl⟩, fun _ i li => ⟨(hlv _).mp li, rfl⟩, fun i k hk => ⟨⟨k, keep i _ hk (fun z => nomatch z)⟩, rfl⟩, fun i b k hk => ⟨keep i _ hk (fun z => nomatch z), rfl⟩, wipeS_len _ _⟩,
    ⟨ok.sub, by rw [L2.wipe_length]; exact ok.len.trans (wipeS_len _ _).symm, ok.nc, fun i d hd => ?_, fun i k hk => ?_, fun n f k hk => ok.fld n f k hk, ok.ins, fun p q lp lq e => ok.inj p q ((hlv p).mp lp) ((hlv q).mp lq) e⟩⟩
  · have hd' : (wipeS c.g.rho vs)[i]? = some (.val d) := hd
    rw [wipeS_get] at hd'
    by_cases e : i ∈ vs ∧ i < c.g.rho.length
    · rw [if_pos e] at hd'; cases hd'
    · rw [if_neg e] at hd'
      have ni : i ∉ vs := fun z => e ⟨z, (List.getElem?_eq_some_iff.mp hd').1⟩
      rw [wipe_get ni]
      exact ok.val i d hd'
  · have hk' := hk
    rw [hct] at hk'
    obtain ⟨q1, q2⟩ := ok.own i k hk'
    refine ⟨?_, q2⟩
    rw [wipe_get fun z => h i z ⟨k, hk'⟩]
    exact q1
/-- .. and come back -/
theorem back_ok {vs : List Nat} (okL : Ok X σ cL) (h : ∀ i ∈ vs, ¬ Live cL.g (.slot i)) (s : Step true cL c) (ok : Ok X (L2.wipe σ vs) c) : Step true cL ⟨{ c.g with rho := backS cL.g.rho c.g.rho vs }, c.S, c.H⟩ ∧ Ok X σ ⟨{ c.g with rho := backS cL.g.rho c.g.rho vs }, c.S, c.H⟩ ∧ ∀ q, Live { c.g with rho := backS cL.g.rho c.g.rho vs } q ↔ Live c.g q := by
  have hl : cL.g.rho.length = c.g.rho.length := s.rlen.symm
  have hct : ∀ p, cont { c.g with rho := backS cL.g.rho c.g.rho vs } p = cont c.g p := by
    intro p
    cases p with
    | fld n f => rfl
    | slot j =>
      show ((backS cL.g.rho c.g.rho vs)[j]?).bind Sl.cont = (c.g.rho[j]?).bind Sl.cont
      rw [backS_get hl]
      by_cases e : j ∈ vs
      · rw [if_pos e]
        have n1 : (cL.g.rho[j]?).bind Sl.cont = none := by
          cases hk : (cL.g.rho[j]?).bind Sl.cont with
          | none => rfl
          | some k => exact absurd ⟨k, hk⟩ (h j e)
        have n2 : (c.g.rho[j]?).bind Sl.cont = none := by
          cases hk : (c.g.rho[j]?).bind Sl.cont with
          | none => rfl
          | some k => exact absurd (s.slots rfl j ⟨k, hk⟩).1 (h j e)
        rw [n1, n2]
      · rw [if_neg e]
  have hlv : ∀ q, Live { c.g with rho := backS cL.g.rho c.g.rho vs } q ↔ Live c.g q := by
    intro q
    cases q with
    | slot i => show (∃ k, cont _ _ = some k) ↔ ∃ k, cont _ _ = some k; rw [hct]
    | fld n f => show (∃ k, cont _ _ = some k) ↔ ∃ k, cont _ _ = some k; rw [hct]
    | ins n => exact Iff.rfl
  have out : ∀ j, j ∉ vs → (backS cL.g.rho c.g.rho vs)[j]? = c.g.rho[j]? := fun j hj => by rw [backS_get hl, if_neg hj]
  refine ⟨⟨s.G, s.nc, s.ia, s.trk, s.fr, fun q lq => s.live q ((hlv q).mp lq), fun n f lf => ⟨(hlv _).mpr (s.fkeep n f lf).1, (s.fkeep n f lf).2⟩, fun _ i li => s.slots rfl i ((hlv _).mp li), fun i k hk => ?_, fun i b k hk => ?_, (backS_len _ _ _).trans s.rlen⟩,
    ⟨ok.sub, ?_, ok.nc, fun i d hd => ?_, fun i k hk => ?_, fun n f k hk => ok.fld n f k hk, ok.ins, fun p q lp lq e => ok.inj p q ((hlv p).mp lp) ((hlv q).mp lq) e⟩, hlv⟩
  · obtain ⟨⟨k', q1⟩, q2⟩ := s.ref i k hk
    have ni : i ∉ vs := fun z => h i z ⟨k, by show (cL.g.rho[i]?).bind Sl.cont = _; rw [hk]; rfl⟩
    exact ⟨⟨k', (out i ni).trans q1⟩, q2⟩
  · obtain ⟨q1, q2⟩ := s.lck i b k hk
    have ni : i ∉ vs := fun z => h i z ⟨k, by show (cL.g.rho[i]?).bind Sl.cont = _; rw [hk]; rfl⟩
    exact ⟨(out i ni).trans q1, q2⟩
  · have e := ok.len
    rw [L2.wipe_length] at e
    exact e.trans (backS_len _ _ _).symm
  · have hd' : (backS cL.g.rho c.g.rho vs)[i]? = some (.val d) := hd
    by_cases e : i ∈ vs
    · rw [backS_get hl, if_pos e] at hd'
      obtain ⟨v, q1, q2⟩ := okL.val i d hd'
      exact ⟨v, q1, R.mono s.ge d q2⟩
    · rw [out i e] at hd'
      obtain ⟨v, q1, q2⟩ := ok.val i d hd'
      rw [wipe_get e] at q1
      exact ⟨v, q1, q2⟩
  · have hk' := hk
    rw [hct] at hk'
    obtain ⟨q1, q2⟩ := ok.own i k hk'
    refine ⟨?_, q2⟩
    exact (L2.wipe_some q1).1
/-- an object that nobody owns yet is changed -/
theorem free_ok {D : Addr} {o : HO} (hG : c.S.G D = none) (hn : ∀ q, Live c.g q → c.S.adr q ≠ D) (ok : Ok X σ c) : Ok X σ ⟨c.g, c.S, upd c.H D o⟩ :=
  ok.heap (S' := c.S) (H' := upd c.H D o) ⟨fun _ _ h => h, Nat.le_refl _, fun _ _ => rfl⟩ rfl rfl (fun a u h => by
    rw [upd_ne fun e => by rw [e, hG] at h; cases h]
    exact ok.sub a u h) fun q lq => ⟨upd_ne (hn q lq), rfl⟩
theorem free_step {D : Addr} {o : HO} (h0 : c0.H D = none) (s : Step true c0 c) : Step true c0 ⟨c.g, c.S, upd c.H D o⟩ := by
  refine ⟨s.G, s.nc, s.ia, fun a ha => ?_, fun a u hu hp => ?_, s.live, s.fkeep, s.slots, s.ref, s.lck, s.rlen⟩
  · show upd c.H D o a ≠ none
    by_cases e : a = D
    · subst e; rw [upd_same]; exact fun z => nomatch z
    · rw [upd_ne e]; exact s.trk a ha
  · obtain ⟨q1, q2⟩ := s.fr a u hu hp
    refine ⟨?_, q2⟩
    show upd c.H D o a = some u
    rw [upd_ne fun e => by rw [e, h0] at hu; cases hu]
    exact q1
end
end Iv
set_option linter.all false
set_option autoImplicit false
set_option maxRecDepth 100000
set_option maxHeartbeats 1000000
/-! Iv24: the rule of list comprehensions. -/
namespace Iv
open PySem (Str Expr Stmt CmpOp Operator BoolOp PyData Addr Value Scope Env Pos)
open L2 (V HO Hp upd upd_same upd_ne ne_of ne_of_none SqL SqT Rd Same WX TE TT TA TS TG TGs TI PE PT PA PS PSs PC PW PG PGs PI R2 OpR Cx CallR XK Ends TSet)

abbrev W0 : WX := fun _ _ _ _ => False
section
variable {X : Tx} {P : Pg} {W : WX} {σ : L2.St} {c c0 c1 c2 c3 : Cfg}
theorem noex_some {α : Type} {m : M α} {g g' : Sg} {o : Out α} (h : noex m g = some (o, g')) : ∃ a, o = .ok a ∧ m g = some (.ok a, g') := by
  unfold noex at h
  split at h
  · rename_i a g2 e; cases h; exact ⟨a, rfl, e⟩
  · cases h
/-- what is kept of the list that grows -/
structure Grow (X : Tx) (a : Addr) (ds : List D) (c : Cfg) where
  acc : List V
  hD : c.H a = some (.lst acc)
  rl : RL X c.S ds acc
  hG : c.S.G a = none
  nl : ∀ q, Live c.g q → c.S.adr q ≠ a
def Grow.step {a : Addr} {ds : List D} (G : Grow X a ds c) (s : Step true c c1) : Grow X a ds c1 where
  acc := G.acc
  hD := (s.fr a _ G.hD G.nl).1
  rl := RL.mono s.ge ds G.rl
  hG := ((s.fr a _ G.hD G.nl).2 fun xs z => nomatch z).trans G.hG
  nl := fun q lq e => by
    rcases s.live q lq with ⟨q', lq', e'⟩ | z
    · exact G.nl q' lq' (e'.symm.trans e)
    · rw [e, G.hD] at z; cases z
/-- a comprehension's turn -/
def lcF (P : Pg) (tg : Tg) (cnd : Ts) (e : T) (d : D) : M (Option D) := noex fun g => match bindTg tg d g with
  | none => none
  | some g' => bnd (conds P cnd) (fun b => if b then bnd (takeM (ev P e)) (fun y => fun g2 => some (.ok (some y), { g2 with rho := wipeS g2.rho tg.slots })) else fun g2 => some (.ok none, { g2 with rho := wipeS g2.rho tg.slots })) g'
end
section
variable {X : Cx} {P : Pg} {W : WX}
theorem lc_imp {tg : Tg} {it : It} {cnd : Ts} {e : T} {σ : L2.St} {H : Hp} {Q : L2.VK} (h : tE (tx X) W (ev P (.lc tg it cnd e)) σ H Q) :
    L2.tLc (tIt (tx X) W (items P it)) (gTg X.K tg) (tB (tx X) W0 (conds P cnd)) (tE (tx X) W0 (ev P e)) tg.slots σ H Q := by
  obtain ⟨c, r, rfl, ok, h, p⟩ := h
  simp only [ev] at h
  cases hm : items P it c.g with
  | none => rw [bnd_none hm] at h; cases h
  | some z =>
  obtain ⟨o, g1⟩ := z
  refine ⟨c, (o, g1), rfl, ok, hm, ?_, ?_⟩
  case refine_2 =>
    intro x hx cls dx c1 hg1 st ok1 rx
    have hx' : o = .exc x := hx
    subst hx'
    rw [bnd_exc hm] at h
    cases h
    exact p.2 x rfl cls dx c1 hg1 st ok1 rx
  rintro ⟨ds, l⟩ ho c1 J hg1 s1 ok1 sv
  have ho' : o = .ok (ds, l) := ho
  subst ho'
  have hg1' : c1.g = g1 := hg1
  subst hg1'
  rw [bnd_ok hm] at h
  simp only at h
  obtain ⟨nl, sv⟩ := sv
  split at h
  case isFalse => cases h
  rename_i hall
  have hns : ∀ i ∈ tg.slots, ¬ Live c1.g (.slot i) := by
    intro i hi ⟨k, hk⟩
    have := (List.all_eq_true.mp hall) i hi
    rw [hk] at this
    cases this
  have hnsL : ∀ i ∈ tg.slots, ¬ Live (c1.lk l).g (.slot i) := fun i hi lv => hns i hi ((lock_live nl _).mp lv)
  have okL := ok1.lk nl
  obtain ⟨stw, okw⟩ := wipe_ok okL hnsL
  intro D hD
  -- the loop's value
  change (match loopC (lcF P tg cnd e) [] ds { (lock l c1.g) with rho := wipeS (lock l c1.g).rho tg.slots } with
    | some (.ok ds, g') => some (.ok (.fresh (.lst ds)), unlock l { g' with rho := backS (lock l c1.g).rho g'.rho tg.slots })
    | _ => none) = some r at h
  cases hlp : loopC (lcF P tg cnd e) [] ds { (lock l c1.g) with rho := wipeS (lock l c1.g).rho tg.slots } with
  | none => rw [hlp] at h; cases h
  | some z =>
  obtain ⟨o, g'⟩ := z
  cases o with
  | exc x => rw [hlp] at h; cases h
  | ok es =>
  rw [hlp] at h
  cases h
  generalize hcw : (⟨{ (c1.lk l).g with rho := wipeS (c1.lk l).g.rho tg.slots }, (c1.lk l).S, (c1.lk l).H⟩ : Cfg) = cw at stw okw
  have cwg : cw.g = { (lock l c1.g) with rho := wipeS (lock l c1.g).rho tg.slots } := by rw [← hcw]
  have cwH : cw.H D = none := by rw [← hcw]; exact hD
  rw [← cwg] at hlp
  have nlw : ∀ i ∈ tg.slots, ¬ Live cw.g (.slot i) := by
    rintro i hi lv
    exact hnsL i hi (stw.slots rfl i lv).1
  have init : Ok (tx X) (L2.wipe σ tg.slots) ⟨cw.g, cw.S, upd cw.H D (.lst [])⟩ := free_ok (okw.free cwH) (okw.nlive cwH) okw
  have sti : Step true cw ⟨cw.g, cw.S, upd cw.H D (.lst [])⟩ := free_step cwH Step.refl
  refine ⟨fun i m H => ∃ c2 accD, c2.H = H ∧ Step true cw c2 ∧ Ok (tx X) (L2.wipe σ tg.slots) c2 ∧ Nonempty (Grow (tx X) D accD c2) ∧ i + m = ds.length ∧ loopC (lcF P tg cnd e) accD (ds.drop i) c2.g = some (.ok es, g'),
    ⟨ds.length, ⟨cw.g, cw.S, upd cw.H D (.lst [])⟩, [], by rw [← hcw], sti, init, ⟨[], upd_same, by simp [RL], okw.free cwH, okw.nlive cwH⟩, by omega, by rw [List.drop_zero]; exact hlp⟩, ?_⟩
  rintro i m H2 ⟨c2, accD, rfl, st2, ok2, ⟨G2⟩, him, hlp2⟩
  have stL2 : Step true (c1.lk l) c2 := stw.trans st2
  have svi := sv _ c2 stL2.weak ok2 i
  cases m with
  | zero =>
    refine .inl ⟨svi.2 (by omega), ?_⟩
    rw [List.drop_of_length_le (by omega)] at hlp2
    unfold loopC at hlp2
    cases hlp2
    obtain ⟨b1, b2, b3⟩ := back_ok okL hnsL stL2 ok2
    obtain ⟨u1, u2, u3⟩ := unlock_ok nl b1 b2
    refine p.1 _ rfl (.ref D) (Cfg.ul ⟨{ c2.g with rho := backS (lock l c1.g).rho c2.g.rho tg.slots }, c2.S, c2.H⟩ l) rfl (s1.trans u1) u2 ⟨D, rfl, G2.hG, ⟨G2.acc, G2.hD, G2.rl⟩, fun q lq => G2.nl q ((b3 q).mp ((u3 q).mp lq)), .inl ?_⟩
    cases z : c.H D with
    | none => rfl
    | some o => exact absurd hD (s1.trk D (by rw [z]; exact fun z => nomatch z))
  | succ m =>
    have hi : i < ds.length := by omega
    obtain ⟨hgo, hy⟩ := svi.1 ds[i] (List.getElem?_eq_getElem hi)
    rw [List.drop_eq_getElem_cons hi] at hlp2
    unfold loopC at hlp2
    refine .inr ⟨hgo, fun H => ∃ m', m' < m + 1 ∧ ∃ c2 accD, c2.H = H ∧ Step true cw c2 ∧ Ok (tx X) (L2.wipe σ tg.slots) c2 ∧ Nonempty (Grow (tx X) D accD c2) ∧ i + 1 + m' = ds.length ∧ loopC (lcF P tg cnd e) accD (ds.drop (i + 1)) c2.g = some (.ok es, g'), fun H' h => h, fun x H' yd => ?_⟩
    obtain ⟨c3, hg3, rfl, st3, ok3, rx⟩ := hy x H' yd
    cases hf : lcF P tg cnd e ds[i] c2.g with
    | none => rw [bnd_none hf] at hlp2; cases hlp2
    | some z =>
    obtain ⟨o3, g3⟩ := z
    obtain ⟨w, rfl, hf2⟩ := noex_some (show noex _ c2.g = _ from hf)
    rw [bnd_ok hf] at hlp2
    split at hf2
    · cases hf2
    rename_i g4 hb4
    rw [← hg3] at hb4
    obtain ⟨σ4, st4, ok4, hout, hlen, q4⟩ := bind_ok ok3 rx hb4
    have hwp : L2.wipe σ4 tg.slots = L2.wipe σ tg.slots := wipe_eq (hlen.trans (L2.wipe_length _ _)) fun j hj => by rw [hout j hj, wipe_get hj]
    have stw4 : Step true cw ⟨g4, c3.S, c3.H⟩ := st2.trans (st3.trans st4)
    have G4 : Grow (tx X) D accD ⟨g4, c3.S, c3.H⟩ := G2.step (st3.trans st4)
    -- the turn's end
    have fin : ∀ {c5 : Cfg} {accD' : List Iv.D} {acc' : List V}, Step true ⟨g4, c3.S, c3.H⟩ c5 → Ok (tx X) σ4 c5 → RL (tx X) c5.S accD' acc' → loopC (lcF P tg cnd e) accD' (ds.drop (i + 1)) { c5.g with rho := wipeS c5.g.rho tg.slots } = some (.ok es, g') →
        ∃ m', m' < m + 1 ∧ ∃ c2 accD, c2.H = upd c5.H D (.lst acc') ∧ Step true cw c2 ∧ Ok (tx X) (L2.wipe σ tg.slots) c2 ∧ Nonempty (Grow (tx X) D accD c2) ∧ i + 1 + m' = ds.length ∧ loopC (lcF P tg cnd e) accD (ds.drop (i + 1)) c2.g = some (.ok es, g') := by
      intro c5 accD' acc' st5 ok5 rl5 hl5
      have n5 : ∀ i ∈ tg.slots, ¬ Live c5.g (.slot i) := fun i hi lv => nlw i hi ((stw4.trans st5).slots rfl i lv).1
      obtain ⟨s6, ok6⟩ := wipe_ok ok5 n5
      rw [hwp] at ok6
      have G6 := G4.step (st5.trans s6)
      refine ⟨m, Nat.lt_succ_self _, ⟨{ c5.g with rho := wipeS c5.g.rho tg.slots }, c5.S, upd c5.H D (.lst acc')⟩, accD', rfl, free_step cwH (stw4.trans (st5.trans s6)), free_ok G6.hG G6.nl ok6, ⟨acc', upd_same, rl5, G6.hG, G6.nl⟩, by omega, hl5⟩
    refine q4 _ ⟨hwp, ?_⟩
    cases hcd : conds P cnd g4 with
    | none => rw [bnd_none hcd] at hf2; cases hf2
    | some z =>
    obtain ⟨o5, g5⟩ := z
    cases o5 with
    | exc x => rw [bnd_exc hcd] at hf2; cases hf2
    | ok b =>
    rw [bnd_ok hcd] at hf2
    refine ⟨⟨g4, c3.S, c3.H⟩, (.ok b, g5), rfl, ok4, hcd, fun b' hb' v c5 hg5 st5 ok5 rb => ?_, fun x hx => (nomatch hx)⟩
    cases hb'
    cases rb
    have hg5' : c5.g = g5 := hg5
    subst hg5'
    cases b with
    | false =>
      rw [if_neg Bool.false_ne_true] at hf2 ⊢
      cases hf2
      have G5 := G4.step st5
      have q := fin (acc' := G5.acc) st5 ok5 G5.rl hlp2
      rw [upd_id G5.hD] at q
      exact q
    | true =>
      rw [if_pos rfl] at hf2 ⊢
      refine tD_tE ?_
      cases hev : takeM (ev P e) c5.g with
      | none => rw [bnd_none hev] at hf2; cases hf2
      | some z =>
      obtain ⟨o6, g6⟩ := z
      cases o6 with
      | exc x => rw [bnd_exc hev] at hf2; cases hf2
      | ok y =>
      rw [bnd_ok hev] at hf2
      cases hf2
      refine ⟨c5, (.ok y, g6), rfl, ok5, hev, fun y' hy' v c6 hg6 st6 ok6 ry => ?_, fun x hx => (nomatch hx)⟩
      cases hy'
      have hg6' : c6.g = g6 := hg6
      subst hg6'
      have G6 := G4.step (st5.trans st6)
      have hll : accD.length < line := by
        by_cases hll : accD.length < line
        · exact hll
        · have z : (if accD.length < line then loopC (lcF P tg cnd e) (accD ++ [y]) (ds.drop (i + 1)) else fun _ => none) { c6.g with rho := wipeS c6.g.rho tg.slots } = some (.ok es, g') := hlp2
          rw [if_neg hll] at z
          cases z
      have hlp2 : (if accD.length < line then loopC (lcF P tg cnd e) (accD ++ [y]) (ds.drop (i + 1)) else fun _ => none) { c6.g with rho := wipeS c6.g.rho tg.slots } = some (.ok es, g') := hlp2
      rw [if_pos hll] at hlp2
      refine ⟨G6.acc, G6.hD, by rw [G6.rl.length]; exact lt_line hll, ?_⟩
      have ry' : R (tx X) c6.S y v := ry
      exact fin (accD' := accD ++ [y]) (acc' := G6.acc ++ [v]) (st5.trans st6) ok6 (G6.rl.append (by simp only [RL]; exact ⟨v, [], rfl, ry', rfl⟩)) hlp2
end
end Iv
set_option linter.all false
set_option autoImplicit false
set_option maxRecDepth 100000
set_option maxHeartbeats 1000000
/-! Iv25: an own container's in; a container handed on; tests that are values. -/
namespace Iv
open PySem (Str Expr Stmt CmpOp Operator BoolOp PyData Addr Value Scope Env Pos)
open L2 (V HO Hp upd upd_same upd_ne ne_of ne_of_none SqL SqT Rd Same WX TE TT TA TS TG TGs TI PE PT PA PS PSs PC PW PG PGs PI R2 OpR Cx CallR XK Ends TSet)

section
variable {X : Cx} {P : Pg} {W : WX} {a b o : Expr} {pos p apos : PySem.Pos} {k fi i : Nat} {f C : Addr} {x cn : Str} {ta tb t : T}
theorem r_ocon (ha : PEf X W a (ev P ta)) (hb : PEf X W b (ev P tb)) (hmk : PySem.behindInMarks .In b = false) (hC : X.mg cn = some (.ref C)) (hm : L2.Meth X.K C (Str.ofString "__contains__") f) (hf : P.meth cn (Str.ofString "__contains__") = some fi) (F : Cal X W P k fi f []) (hr : L2.Room k X.A) (tk : L2.Takes X W) :
    PEf X W (.Compare a [.In] [b] pos) (ev P (.ocon cn ta tb)) := by
  refine ⟨fun pins s σ H Q I h => ?_⟩
  obtain ⟨c0, z, rfl, ok, h, p⟩ := h
  simp only [ev] at h
  let Rr : V → V → Hp → Prop := fun x y H2 => ∃ q dx fs, y = .ref q ∧ H2 q = some (.ins C dx fs) ∧ spF (tx X) F.N F.ps.length (P.call fi) ([.ref q, x] ++ F.dvs) H2 (fun v H3 => ∃ b, v = .bl b ∧ Q (.bl b) H3) (L2.WE W σ)
  have h1 : tE (tx X) W (ev P ta) σ c0.H fun x H1 => tE (tx X) W (ev P tb) σ H1 fun y H2 => Rr x y H2 := by
    refine tD_tE (tM_bnd rr_backs ok h p fun d v1 c1 s1 ok1 rr1 h1 p1 => ?_)
    refine tM_bnd rr_backs ok1 h1 p1 fun y v2 c2 s2 ok2 rr2 h2 p2 => ?_
    cases hk : chkI cn (Str.ofString "__contains__") y c2.g with
    | none => rw [bnd_none hk] at h2; cases h2
    | some w =>
      obtain ⟨n, J, rfl, rfl, hJ, hc, hfm⟩ := chkI_some hk
      rw [bnd_ok hk, hf] at h2
      simp only at h2
      obtain ⟨Ca, dx, fs, ev1, hm1, hh, fr⟩ := recv ok2 rr2 hJ
      rw [hc] at hm1
      have eC : Ca = C := by
        have hm2 : X.mg cn = some (.ref Ca) := hm1
        rw [hC] at hm2
        cases hm2
        rfl
      subst eC
      have rd : R (tx X) c2.S d v1 := R.mono s2.ge d rr1
      have rc : R (tx X) c2.S (.cell n) v2 := rr2
      refine ⟨_, dx, fs, ev1, hh, ?_⟩
      cases hcl : callM P fi [.v (.cell n), .v d] c2.g with
      | none => rw [bnd_none hcl] at h2; cases h2
      | some z' =>
        rw [← ev1]
        refine F.sp (c := c2) (xs := [.v (.cell n), .v d]) (vs := [v2, v1]) (z := z') ok2 (fun c0 => ⟨v2, [v1], rfl, rc, v1, [], rfl, rd, rfl⟩) (by rw [List.map_nil, List.append_nil]; exact hcl) ⟨?_, ?_⟩
        · intro r hr v c3 hg3 s3 ok3 rr3
          obtain ⟨o, g'⟩ := z'
          have hr' : o = .ok r := hr
          subst hr'
          rw [bnd_ok hcl] at h2
          obtain ⟨w, hw, rfl⟩ := liftO_some h2
          split at hw
          · rename_i b
            cases hw
            have ev' : v = .bl b := by have := rr3; simpa [RR, R] using this
            subst ev'
            exact ⟨b, rfl, p2.1 _ rfl (.bl b) c3 hg3 s3 ok3 (r_bl (T := tx X) (S := c3.S) b)⟩
          · cases hw
        · intro e he cls dx c3 hg3 s3 ok3 rx
          obtain ⟨o, g'⟩ := z'
          have he' : o = .exc e := he
          subst he'
          rw [bnd_exc hcl] at h2
          cases h2
          exact p2.2 e rfl cls dx c3 hg3 s3 ok3 rx
  refine PySem.wpAny_Compare1 (L2.bin ha hb I h1 fun v u s2 x y H2 I2 rx ry q => ?_) hmk
  obtain ⟨q, dx, fs, rfl, hq, hsp⟩ := q
  have eu : u = Value.ref q := ry
  subst eu
  obtain ⟨mA, O, _⟩ := L2.ins_get I2.hok hq
  obtain ⟨od, J, _⟩ := O.look
  obtain ⟨m, hF⟩ := I2.fr
  refine PySem.W.in_K hF I.ok.mod.kin J hm.at_ hm.fn ?_
  refine L2.thn (L2.run_fnSD (us := [.ref q, v]) (vs := [.ref q, x]) F.ok hr F.hb F.hd (L2.passAt tk σ) I2 (.cons rfl (.cons rx .nil)) hsp) fun r s3 ⟨w, H3, I3, rw', b, ew, q3⟩ => ?_
  subst ew
  have er : r = Value.bool b := rw'
  subst er
  exact PySem.wpAny_truthy_bool ⟨.bl b, H3, I3, rfl, q3⟩
/-- a container is handed on; its slot is empty from now on -/
theorem r_mv (hN : X.N[i]? = some x) (hv : L2.Vis X.env.scope x) (hd : (x == ("__debug__" : Str)) = false) (hcd : (x == ("__classdict__" : Str)) = false) : PEf X W (.Name x pos) (ev P (.mv i)) := by
  refine PE.imp (L2.pe_var hN hv hd hcd) ?_
  rintro σ H Q ⟨c, r, rfl, ok, h, p⟩
  simp only [ev] at h
  split at h
  case h_2 => cases h
  rename_i k hr
  cases h
  have hc : cont c.g (.slot i) = some k := by show (c.g.rho[i]?).bind Sl.cont = _; rw [hr]; rfl
  have lv : Live c.g (.slot i) := ⟨k, hc⟩
  obtain ⟨hs, hG, cr⟩ := ok.own i k hc
  refine ⟨_, hs, ?_⟩
  have hct : ∀ p, cont { c.g with rho := c.g.rho.set i .un } p = if p = .slot i then none else cont c.g p := fun p => by rw [set_cont hr]; rfl
  have hlv : ∀ q, Live { c.g with rho := c.g.rho.set i .un } q → q ≠ .slot i ∧ Live c.g q := by
    intro q lq
    cases q with
    | slot j =>
      obtain ⟨k1, hk⟩ := lq
      rw [hct] at hk
      by_cases e : Pl.slot j = .slot i
      · rw [if_pos e] at hk; cases hk
      · rw [if_neg e] at hk; exact ⟨by simpa using e, k1, hk⟩
    | fld n f =>
      obtain ⟨k1, hk⟩ := lq
      rw [hct, if_neg (by simp)] at hk
      exact ⟨by simp, k1, hk⟩
    | ins n => exact ⟨by simp, lq⟩
  have rho : ∀ j, j ≠ i → (c.g.rho.set i Sl.un)[j]? = c.g.rho[j]? := fun j hj => List.getElem?_set_ne (Ne.symm hj)
  have ge : Ge c.S c.S := ⟨fun _ _ h => h, Nat.le_refl _, fun _ _ => rfl⟩
  refine p.1 _ rfl _ ⟨{ c.g with rho := c.g.rho.set i .un }, c.S, c.H⟩ rfl ⟨fun _ _ h => h, Nat.le_refl _, fun _ _ => rfl, fun _ h => h, fun _ _ h _ => ⟨h, fun _ => rfl⟩, fun q lq => .inl ⟨q, (hlv q lq).2, rfl⟩, fun n f lf => ⟨?_, rfl⟩, fun _ j lj => ⟨(hlv _ lj).2, rfl⟩, fun j k1 hj => ⟨⟨k1, ?_⟩, rfl⟩, fun j b k1 hj => ⟨?_, rfl⟩, List.length_set⟩
    ⟨ok.sub, ok.len.trans List.length_set.symm, ok.nc, fun j d hd => ?_, fun j k1 hk => ?_, fun n f k1 hk => ?_, ok.ins, fun p q lp lq e => ok.inj p q (hlv p lp).2 (hlv q lq).2 e⟩ ⟨_, rfl, hG, CR.mono ge (fun _ h => h) cr, fun q lq e => (hlv q lq).1 (ok.inj q (.slot i) (hlv q lq).2 lv e), .inr ⟨.slot i, lv, rfl⟩⟩
  · obtain ⟨k1, hk⟩ := lf
    exact ⟨k1, by rw [hct, if_neg (by simp)]; exact hk⟩
  · have ne : j ≠ i := fun z => by subst z; rw [hr] at hj; cases hj
    exact (rho j ne).trans hj
  · have ne : j ≠ i := fun z => by subst z; rw [hr] at hj; cases hj
    exact (rho j ne).trans hj
  · have hd' : (c.g.rho.set i .un)[j]? = some (.val d) := hd
    by_cases e : j = i
    · subst e; rw [List.getElem?_set_self (List.getElem?_eq_some_iff.mp hr).1] at hd'; cases hd'
    · rw [rho j e] at hd'; exact ok.val j d hd'
  · have hk' := hk
    rw [hct] at hk'
    by_cases e : Pl.slot j = .slot i
    · rw [if_pos e] at hk'; cases hk'
    · rw [if_neg e] at hk'; exact ok.own j k1 hk'
  · have hk' := hk
    rw [hct, if_neg (by simp)] at hk'
    exact ok.fld n f k1 hk'
theorem bnd_inv {α β : Type} {m : M α} {k : α → M β} {g g' : Sg} {b : β} (h : bnd m k g = some (.ok b, g')) : ∃ a g1, m g = some (.ok a, g1) ∧ k a g1 = some (.ok b, g') := by
  cases hm : m g with
  | none => rw [bnd_none hm] at h; cases h
  | some z =>
    obtain ⟨o, g1⟩ := z
    cases o with
    | exc x => rw [bnd_exc hm] at h; cases h
    | ok a => rw [bnd_ok hm] at h; exact ⟨a, g1, rfl, h⟩
theorem plain_ok {e : Expr} {env : Env} (h : plainTest e = true) : ∀ whole, PySem.isTrue e env whole = (do let v ← whole; PySem.standAt e.pos; PySem.holding [v] (PySem.truthy v)) := by
  intro whole
  cases e with
  | UnaryOp op _ _ => cases op <;> first | rfl | cases h
  | _ => first | rfl | cases h
/-- a chain of comparisons as a test -/
theorem rt_chain {a b c : Expr} {op op' : CmpOp} {tc : T} (hu : X.A.units + 65 < PySem.cLine) (hm : PySem.lastMarks [op, op'] [b, c] = false) (ha : PEf X W a (ev P ta)) (hb : PEf X W b (ev P tb)) (hc : PEf X W c (ev P tc)) : PTf X W (.Compare a [op, op'] [b, c] pos) (tst P (.chain op op' ta tb tc)) := by
  refine PT.imp (L2.pt_chain (op_cmp hu op) (op_cmp hu op') ha hb hc hm) ?_
  rintro σ H Q ⟨c, z, rfl, ok, h, p⟩
  have h' : bnd (ev P (.chain op op' ta tb tc)) truR c.g = some z := by simpa only [tst] using h
  cases hv : ev P (.chain op op' ta tb tc) c.g with
  | none => rw [bnd_none hv] at h'; cases h'
  | some y =>
  obtain ⟨o, g1⟩ := y
  have hv0 := hv
  simp only [ev] at hv
  -- the value's own post
  have key : Post (tx X) W σ (RR (tx X)) c (o, g1) (fun x H' => ∃ k, x = .bl k ∧ Q k H') := by
    refine ⟨fun r hr v c1 hg st ok1 rr => ?_, fun x hx => ?_⟩
    · have hr' : o = .ok r := hr
      subst hr'
      have hg' : c1.g = g1 := hg
      subst hg'
      rw [bnd_ok hv0] at h'
      obtain ⟨b, rfl, tv⟩ := truR_ok ok1 rr h'
      have isb : ∃ k, r = .val (.bl k) := by
        clear h' rr tv p
        obtain ⟨_, _, _, hv⟩ := bnd_inv hv
        obtain ⟨_, _, _, hv⟩ := bnd_inv hv
        obtain ⟨t, _, _, hv⟩ := bnd_inv hv
        cases t with
        | false => cases hv; exact ⟨_, rfl⟩
        | true =>
          rw [if_pos rfl] at hv
          obtain ⟨_, _, _, hv⟩ := bnd_inv hv
          obtain ⟨w, hw, e⟩ := liftO_some hv
          obtain ⟨b', _, rfl⟩ := Option.map_eq_some_iff.mp hw
          cases e
          exact ⟨_, rfl⟩
      obtain ⟨k, rfl⟩ := isb
      have ev' : v = .bl k := by have := rr; simpa [RR, R] using this
      have ek : b = k := by
        obtain ⟨b2, hb2, e⟩ := liftO_some (show liftO _ c1.g = _ from h')
        have : truD (.bl k) = some b2 := hb2
        cases this
        cases e
        rfl
      subst ek
      exact ⟨b, ev', p.1 b rfl b c1 rfl st ok1 rfl⟩
    · have hx' : o = .exc x := hx
      subst hx'
      rw [bnd_exc hv0] at h'
      cases h'
      exact p.2 x rfl
  refine tM_bnd rr_backs ok hv key fun x v1 c1 s1 ok1 rr1 h1 p1 => ?_
  refine tM_bnd rr_backs ok1 h1 p1 fun y v2 c2 s2 ok2 rr2 h2 p2 => ?_
  cases hl : liftO (cmpR op x y) c2.g with
  | none => rw [bnd_none hl] at h2; cases h2
  | some w =>
    have hl2 := hl
    obtain ⟨t, ht, rfl⟩ := liftO_some hl2
    rw [bnd_ok hl] at h2
    refine cmpR_ok (c0 := c) ok2 (rr1.mono s2) (rr2.back s1) ht ⟨t, rfl, ?_⟩
    cases t with
    | false =>
      cases h2
      exact L2.iteF (p2.read ok2 (r_bl _))
    | true =>
      rw [if_pos rfl] at h2
      refine L2.iteT ?_
      refine tM_bnd rr_backs ok2 h2 p2 fun w v3 c3 s3 ok3 rr3 h3 p3 => ?_
      obtain ⟨r, hr, e⟩ := liftO_some h3
      cases e
      obtain ⟨b', hb', rfl⟩ := Option.map_eq_some_iff.mp hr
      exact cmpR_ok (c0 := c1) ok3 (rr2.mono s3) (rr3.back s2) hb' (p3.read ok3 (r_bl _))
end
end Iv
set_option linter.all false
set_option autoImplicit false
set_option maxRecDepth 100000
set_option maxHeartbeats 1000000
/-! Iv26: does a text of the small syntax stand for this code? -/
namespace Iv
open PySem (Str Expr Stmt CmpOp Operator BoolOp PyData Addr Value Scope Env Pos)

def visB (sc : Scope) (x : Str) : Bool := decide (sc.names.lookup x = some .local) || decide (sc.names.lookup x = some .cell) || decide (sc.names.lookup x = some .free)
def locB (sc : Scope) (x : Str) : Bool := decide (sc.names.lookup x = some .local) || decide (sc.names.lookup x = some .cell)
def glB (sc : Scope) (x : Str) : Bool := decide (sc.names.lookup x = some .globalImplicit)
def dbg (x : Str) : Bool := !(x == ("__debug__" : Str)) && !(x == ("__classdict__" : Str))
def cont1 : Str := Str.ofString "__contains__"
section
variable (p : Prog) (N : List Str)
def nameB (sc : Scope) (i : Nat) (x : Str) : Bool := decide (N[i]? = some x) && visB sc x && dbg x
/-- a name as a target -/
def tgNm (fb : Str → Bool) (sc : Scope) (i : Nat) (x : Str) : Bool := decide (N[i]? = some x) && (decide (sc.names.lookup x = some .local) || (decide (sc.names.lookup x = some .cell) && fb x))
def tgNms (fb : Str → Bool) (sc : Scope) : List Nat → List Expr → Bool
  | [], [] => true
  | i :: is, .Name x _ :: es => tgNm N fb sc i x && tgNms fb sc is es
  | _, _ => false
def chkG (fb : Str → Bool) (sc : Scope) : Tg → Expr → Bool
  | .nm i, e => match e with
    | .Name x _ => tgNm N fb sc i x
    | _ => false
  | .tup is, e => match e with
    | .Tuple es _ _ => tgNms N fb sc is es
    | _ => false
/-- the block of a comprehension: its names are those of its target -/
def ownOf (is : List Nat) : List (Str × Nat) := is.map fun i => (N.getD i Str.empty, i)
def blkB (sc scope : Scope) (own : List (Str × Nat)) : Bool :=
  decide (scope.kind = .function) && scope.names.all (fun y => decide (scope.names.lookup y.1 = some y.2)) && own.all (fun q => decide (N[q.2]? = some q.1))
  && scope.names.all (fun y => !decide (y.2 = .free) || decide (sc.names.lookup y.1 = some .cell) || decide (sc.names.lookup y.1 = some .free))
  && scope.names.all (fun y => !(decide (y.2 = .local) || decide (y.2 = .cell)) || decide (y.1 ∈ own.map (·.1)) || decide (y.1 ∉ N))
def isSet : Expr → Bool
  | .Set _ _ _ => true
  | _ => false
def bi (sc : Scope) (x y : Str) : Bool := decide (x = y) && glB sc x && p.free x
def optB (t : T) (o : Option Expr) (f : Expr → Bool) : Bool := match t with
  | .absent => o.isNone
  | _ => match o with
    | some e => f e
    | none => false
/-- as a test: the model asks the value -/
def pt (b : Bool) (e : Expr) : Bool := !b || plainTest e
mutual
/-- b: as a test -/
def chkE : T → Bool → Scope → Expr → Bool
  | .nm i, b, sc, e => match e with
    | .Name x _ => nameB N sc i x
    | _ => false
  | .mv i, b, sc, e => match e with
    | .Name x _ => nameB N sc i x
    | _ => false
  | .int i, b, sc, e => match e with
    | .Constant (.int j) _ _ => !b && decide (i = j)
    | _ => false
  | .str i, b, sc, e => match e with
    | .Constant (.str j) _ _ => !b && decide (i = j)
    | _ => false
  | .bl i, b, sc, e => match e with
    | .Constant (.bool j) _ _ => !b && decide (i = j)
    | _ => false
  | .non, b, sc, e => match e with
    | .Constant .none _ _ => !b
    | _ => false
  | .glob x, b, sc, e => match e with
    | .Name y _ => decide (x = y) && glB sc x && dbg x && (p.glob x).isSome
    | _ => false
  | .bin op l' r', b, sc, e => match e with
    | .BinOp l op' r _ => decide (op = op') && chkE l' false sc l && chkE r' false sc r
    | _ => false
  | .neg a, b, sc, e => match e with
    | .UnaryOp .USub l _ => chkE a false sc l
    | _ => false
  | .cmp op a c, b, sc, e => match e with
    | .Compare l [op'] [r] _ => decide (op = op') && !PySem.behindInMarks op r && chkE a false sc l && chkE c false sc r
    | _ => false
  | .chain o1 o2 a c d, b, sc, e => match e with
    | .Compare l [o1', o2'] [m, r] _ => decide (o1 = o1') && decide (o2 = o2') && !PySem.lastMarks [o1, o2] [m, r] && chkE a false sc l && chkE c false sc m && chkE d false sc r
    | _ => false
  | .bop op ts, b, sc, e => match e with
    | .BoolOp op' es _ => decide (op = op') && !es.isEmpty && chkEs ts b sc es
    | _ => false
  | .not a, b, sc, e => match e with
    | .UnaryOp .Not l _ => chkE a b sc l
    | _ => false
  | .ite c l r, b, sc, e => match e with
    | .IfExp t x y _ => !b && chkE c true sc t && chkE l false sc x && chkE r false sc y
    | _ => false
  | .lst ts, b, sc, e => match e with
    | .List es _ => es.all noStar && chkEs ts false sc es
    | _ => false
  | .tup ts, b, sc, e => match e with
    | .Tuple es _ _ => es.all noStar && chkEs ts false sc es
    | _ => false
  | .sub a i, b, sc, e => match e with
    | .Subscript l r _ => noSlice r && chkE a false sc l && chkE i false sc r
    | _ => false
  | .slc a lo hi, b, sc, e => match e with
    | .Subscript l (.Slice x y none _) _ => chkE a false sc l && optB lo x (chkE lo false sc) && optB hi y (chkE hi false sc)
    | _ => false
  | .absent, b, sc, _ => false
  | .b1 f a, b, sc, e => match e with
    | .Call (.Name x _) [y] [] _ => bi p sc x (b1Name f) && noStar y && chkE a false sc y
    | _ => false
  | .b2 f a c, b, sc, e => match e with
    | .Call (.Name x _) [y, z] [] _ => bi p sc x (b2Nm f) && noStar y && noStar z && chkE a false sc y && chkE c false sc z
    | _ => false
  | .isi a tys, b, sc, e => match tys with
    | [t] => match e with
      | .Call (.Name x _) [y, .Name z _] [] _ => bi p sc x "isinstance" && builtTy t && bi p sc z (tyS t) && noStar y && chkE a false sc y
      | _ => false
    | _ => false
  | .call f ts dd, b, sc, e => match e with
    | .Call (.Name x _) es [] _ => decide (p.fnOf x = some f) && dd.isEmpty && glB sc x && dbg x && es.all noStar && chkAs ts sc es
    | _ => false
  | .rf _, b, sc, _ => false
  | .ln _, b, sc, _ => false
  | .meth m o ts, b, sc, e => match e with
    | .Call (.Attribute l x ap) es [] pos => decide (x = mtNm m) && noSup l && es.all noStar && decide (es.length < 30) && (ap.endLine == pos.line) && (!es.isEmpty || decide (m = .pop0)) && chkE o false sc l && chkEs ts false sc es
    | _ => false
  | .omet c o m ts dd, b, sc, e => match e with
    | .Call (.Attribute l x ap) es [] pos => decide (x = m) && dd.isEmpty && (p.meth c m).isSome && noSup l && es.all noStar && decide (es.length < 30) && (ap.endLine == pos.line) && chkE o false sc l && chkAs ts sc es
    | _ => false
  | .ocon c a o, b, sc, e => match e with
    | .Compare l [.In] [r] _ => !b && !PySem.behindInMarks .In r && (p.meth c cont1).isSome && chkE a false sc l && chkE o false sc r
    | _ => false
  | .mk c ts dd, b, sc, e => match e with
    | .Call (.Name x _) es [] _ => decide (x = c) && dd.isEmpty && (p.init c).isSome && glB sc x && dbg x && es.all noStar && chkAs ts sc es
    | _ => false
  | .attr o f, b, sc, e => match e with
    | .Attribute l x _ => decide (x = f) && noSup l && chkE o false sc l
    | _ => false
  | .dict0 _, b, sc, e => match e with
    | .Dict [] [] _ => true
    | _ => false
  | .lc tg it cnd t, b, sc, e => match e with
    | .ListComp elt [⟨te, iter, ifs, 0⟩] scope _ => blkB N sc scope (ownOf N tg.slots) && chkIt it sc iter && !isSet iter && chkG N (fun x => scope.names.lookup x == some .cell) (L2.relS scope sc) tg te && chkCs cnd (L2.relS scope sc) ifs && chkE t false (L2.relS scope sc) elt
    | _ => false
def chkCs : Ts → Scope → List Expr → Bool
  | .nil, sc, es => es.isEmpty
  | .cons t ts, sc, es => match es with
    | [e] => chkE t true sc e
    | _ => false
def chkEs : Ts → Bool → Scope → List Expr → Bool
  | .nil, b, sc, es => es.isEmpty
  | .cons t ts, b, sc, es => match es with
    | e :: es => chkE t b sc e && chkEs ts b sc es
    | [] => false
def chkAs : Ts → Scope → List Expr → Bool
  | .nil, sc, es => es.isEmpty
  | .cons t ts, sc, es => match es with
    | e :: es => (match t with
      | .rf i => (match e with
        | .Name x _ => nameB N sc i x
        | _ => false)
      | .ln i => (match e with
        | .Name x _ => nameB N sc i x
        | _ => false)
      | _ => chkE t false sc e) && chkAs ts sc es
    | [] => false
def chkIt : It → Scope → Expr → Bool
  | .seq t, sc, e => chkE t false sc e
  | .rng1 a, sc, e => match e with
    | .Call (.Name x _) [y] [] _ => bi p sc x "range" && noStar y && chkE a false sc y
    | _ => false
  | .rng2 a c, sc, e => match e with
    | .Call (.Name x _) [y, z] [] _ => bi p sc x "range" && noStar y && noStar z && chkE a false sc y && chkE c false sc z
    | _ => false
  | .zip _ _, sc, _ => false
  | .enum _, sc, _ => false
end
def isComp : Expr → Bool
  | .ListComp _ _ _ _ => true
  | .SetComp _ _ _ _ => true
  | .DictComp _ _ _ _ _ => true
  | _ => false
def isTup : Expr → Bool
  | .Tuple _ _ _ => true
  | _ => false
/-- name = [..] on one line -/
def swaps (sc : Scope) (v : Expr) (te : Expr) : Bool := match te, v with
  | .Name y py, .ListComp _ _ s vp => decide (sc.names.lookup y = some .local) && (py.line == vp.line) && !(s.names.any fun (n, k) => n == y && (k == .local || k == .cell))
  | _, _ => false
mutual
def chkS (sc : Scope) : S → Stmt → Bool
  | .asg tg fr t, st => match st with
    | .Assign [te] v _ => chkG N (fun _ => true) sc tg te && chkE p N t false sc v && (if isComp v then (match v with
        | .ListComp _ _ _ _ => true
        | _ => false) else true) && (!isTup te || !isTup v)
    | _ => false
  | .setSub o i t, st => match st with
    | .Assign [.Subscript eo ei _] v _ => noSlice ei && chkE p N t false sc v && chkE p N o false sc eo && chkE p N i false sc ei
    | _ => false
  | .setAttr o f t, st => match st with
    | .Assign [.Attribute eo f' _] v _ => decide (f = f') && chkE p N t false sc v && chkE p N o false sc eo
    | _ => false
  | .aug i op t, st => match st with
    | .AugAssign (.Name x _) op' e _ => decide (op = op') && tgNm N (fun _ => true) sc i x && chkE p N t false sc e
    | _ => false
  | .expr t, st => match st with
    | .Expr e _ => !isComp e && chkE p N t false sc e
    | _ => false
  | .ite c a b, st => match st with
    | .If e x y _ => chkE p N c true sc e && chkSs sc a x && chkSs sc b y
    | _ => false
  | .for_ tg it body, st => match st with
    | .For te iter x [] _ => chkG N (fun _ => true) sc tg te && chkIt p N it sc iter && !isSet iter && chkSs sc body x
    | _ => false
  | .whl _ c body, st => match st with
    | .While e x [] _ => chkE p N c true sc e && chkSs sc body x
    | _ => false
  | .ret t, st => match st with
    | .Return (some e) _ => chkE p N t false sc e
    | _ => false
  | .retN, st => match st with
    | .Return none _ => true
    | _ => false
  | .pass, st => match st with
    | .Pass _ => true
    | _ => false
  | .brk, st => match st with
    | .Break _ => true
    | _ => false
  | .cnt, st => match st with
    | .Continue _ => true
    | _ => false
  | .frz _, _ => false
def chkSs (sc : Scope) : Ss → List Stmt → Bool
  | .nil, sts => sts.isEmpty
  | .cons s ss, sts => match s with
    | .frz _ => chkSs sc ss sts
    | s => match sts with
      | st :: sts => chkS sc s st && chkSs sc ss sts
      | [] => false
end
end
end Iv
set_option linter.all false
set_option autoImplicit false
set_option maxRecDepth 100000
set_option maxHeartbeats 2000000
/-! Iv27: the checker is right: expressions. -/
namespace Iv
open PySem (Str Expr Stmt CmpOp Operator BoolOp PyData Addr Value Scope Env Pos)
open L2 (V HO Hp upd upd_same upd_ne ne_of ne_of_none SqL SqT Rd Same WX TE TT TA TS TG TGs TI PE PT PA PS PSs PC PW PG PGs PI R2 OpR Cx CallR XK Ends TSet)

/-- what is known of the program's own things -/
structure Fx (p : Prog) (P : Pg) (k : Nat) (X : Cx) : Prop where
  fn : ∀ x fi, p.fnOf x = some fi → ∃ f, X.mg x = some (.ref f) ∧ PySem.W.keepIn X.K (.ref f) = true ∧ ∀ W, Nonempty (Cal X W P (k + 1) fi f [])
  mt : ∀ c m fi, p.meth c m = some fi → ∃ C f, X.mg c = some (.ref C) ∧ L2.Cls X.K C ∧ L2.Meth X.K C m f ∧ ∀ W, Nonempty (Cal X W P (k + 1) fi f [])
  mak : ∀ c fi, p.init c = some fi → ∃ C f, X.mg c = some (.ref C) ∧ L2.Mk X.K C f ∧ ∀ W, Nonempty (Cal X W P.mk1 k fi f [])
  fld : ∀ c f C, P.fld c f = true → X.mg c = some (.ref C) → L2.Cls X.K C ∧ L2.NoAttr X.K C f
  fr : ∀ x, p.free x = true → X.mg x = none
  gl : ∀ x d, P.glob x = some d → ∃ u v, X.mg x = some u ∧ L2.RelV v u ∧ ∀ S, R (tx X) S d v
  pm : P.meth = p.meth
  pi : P.init = p.init
  pg : P.glob = p.glob
structure Gd (p : Prog) (P : Pg) (k : Nat) (N : List Str) (X : Cx) (W : WX) (sc : Scope) : Prop where
  eN : X.N = N
  nd : N.Nodup
  es : X.env.scope = sc
  calm : X.calm = true
  room : L2.Room (k + 1) X.A
  tk : L2.Takes X W
  fx : Fx p P k X
section
variable {p : Prog} {P : Pg} {k : Nat} {N : List Str} {X : Cx} {W : WX} {sc : Scope} {x : Str} {i : Nat} {pos : Pos} {t : T} {e : Expr} {b : Bool}
theorem Gd.u70 (g : Gd p P k N X W sc) : X.A.units + 70 < PySem.cLine := by have := g.room.un; omega
theorem Gd.u65 (g : Gd p P k N X W sc) : X.A.units + 65 < PySem.cLine := by have := g.room.un; omega
theorem Gd.u1 (g : Gd p P k N X W sc) : X.A.units + 1 < PySem.cLine := by have := g.room.un; omega
theorem Gd.gl (g : Gd p P k N X W sc) (h : glB sc x = true) : L2.Gl X x := by
  show X.env.scope.names.lookup x = _
  rw [g.es]
  exact of_decide_eq_true h
theorem Gd.vis (g : Gd p P k N X W sc) (h : visB sc x = true) : L2.Vis X.env.scope x := by
  rw [g.es]
  unfold visB at h
  simp only [Bool.or_eq_true, decide_eq_true_eq] at h
  rcases h with (h | h) | h
  · exact .inl h
  · exact .inr (.inl h)
  · exact .inr (.inr h)
theorem dbg_ok (h : dbg x = true) : (x == ("__debug__" : Str)) = false ∧ (x == ("__classdict__" : Str)) = false := by
  unfold dbg at h
  simpa only [Bool.and_eq_true, Bool.not_eq_true'] using h
theorem Gd.nm (g : Gd p P k N X W sc) (h : nameB N sc i x = true) : X.N[i]? = some x ∧ L2.Vis X.env.scope x ∧ (x == ("__debug__" : Str)) = false ∧ (x == ("__classdict__" : Str)) = false := by
  unfold nameB at h
  simp only [Bool.and_eq_true, decide_eq_true_eq] at h
  obtain ⟨⟨h1, h2⟩, h3⟩ := h
  obtain ⟨h4, h5⟩ := dbg_ok h3
  exact ⟨by rw [g.eN]; exact h1, g.vis h2, h4, h5⟩
theorem Gd.bi {y : Str} (g : Gd p P k N X W sc) (h : bi p sc x y = true) : x = y ∧ L2.Gl X x ∧ X.mg x = none := by
  unfold Iv.bi at h
  simp only [Bool.and_eq_true, decide_eq_true_eq] at h
  exact ⟨h.1.1, g.gl h.1.2, g.fx.fr x h.2⟩
theorem all_ns {es : List Expr} (h : es.all noStar = true) : ∀ y ∈ es, noStar y = true := List.all_eq_true.mp h
/-! ### targets -/
theorem Gd.tgn {fb : Str → Bool} (g : Gd p P k N X W sc) (hf : ∀ x, fb x = true → X.fn x = true) (h : tgNm N fb sc i x = true) : PG X (.Name x pos) (L2.gName i) := by
  unfold tgNm at h
  simp only [Bool.and_eq_true, Bool.or_eq_true, decide_eq_true_eq] at h
  obtain ⟨h1, h2⟩ := h
  have hN : X.N.Nodup := by rw [g.eN]; exact g.nd
  have hi : X.N[i]? = some x := by rw [g.eN]; exact h1
  rcases h2 with h2 | ⟨h2, h3⟩
  · have h2' : X.env.scope.names.lookup x = some .local := by rw [g.es]; exact h2
    exact L2.pg_name hN hi (.inl h2') (.inr h2')
  · have h2' : X.env.scope.names.lookup x = some .cell := by rw [g.es]; exact h2
    exact L2.pg_name hN hi (.inr h2') (.inl (hf x h3))
theorem Gd.tgns {fb : Str → Bool} (g : Gd p P k N X W sc) (hf : ∀ x, fb x = true → X.fn x = true) : ∀ {is : List Nat} {es : List Expr}, tgNms N fb sc is es = true → PGs X es (gMany is) ∧ (PySem.assignEach es X.env).length = is.length ∧ (PySem.assignEach es X.env).findIdx? (·.1) = none
  | [], [], _ => ⟨L2.pgs_nil, rfl, rfl⟩
  | [], _ :: _, h => by simp [tgNms] at h
  | i :: is, [], h => by simp [tgNms] at h
  | i :: is, e :: es, h => by
    cases e with
    | Name x q =>
      have h' : (tgNm N fb sc i x && tgNms N fb sc is es) = true := h
      simp only [Bool.and_eq_true] at h'
      obtain ⟨h1, h2, h3⟩ := g.tgns hf h'.2
      refine ⟨L2.pgs_cons (g.tgn hf h'.1) h1 rfl, ?_, ?_⟩
      · show (PySem.assignEach es X.env).length + 1 = is.length + 1
        rw [h2]
      · show List.findIdx? (·.1) ((false, PySem.assign (.Name x q) X.env) :: PySem.assignEach es X.env) = none
        rw [List.findIdx?_cons]
        simp [h3]
    | _ => simp [tgNms] at h
theorem Gd.tg {fb : Str → Bool} {tg : Tg} {te : Expr} (g : Gd p P k N X W sc) (hf : ∀ x, fb x = true → X.fn x = true) (h : chkG N fb sc tg te = true) : PG X te (gTg X.K tg) := by
  cases tg with
  | nm i =>
    cases te with
    | Name x q => exact g.tgn hf h
    | _ => cases h
  | tup is =>
    cases te with
    | Tuple es q r =>
      obtain ⟨h1, h2, h3⟩ := g.tgns hf (show tgNms N fb sc is es = true from h)
      exact L2.pg_tup g.calm h1 h2 h3
    | _ => cases h
/-! ### a comprehension's block -/
theorem mem_ix {own : List (Str × Nat)} (h : own.all (fun q => decide (N[q.2]? = some q.1)) = true) : ∀ q ∈ own, N[q.2]? = some q.1 := fun q hq => of_decide_eq_true (List.all_eq_true.mp h q hq)
theorem Gd.blkOk {scope : Scope} {is : List Nat} (g : Gd p P k N X W sc) (h : blkB N sc scope (ownOf N is) = true) : L2.BlkOk X.N X.env.scope scope (ownOf N is) ∧ (ownOf N is).map (·.2) = is := by
  unfold blkB at h
  simp only [Bool.and_eq_true, decide_eq_true_eq, List.all_eq_true, Bool.or_eq_true, Bool.not_eq_true', decide_eq_false_iff_not] at h
  obtain ⟨⟨⟨⟨h1, h2⟩, h3⟩, h4⟩, h5⟩ := h
  refine ⟨⟨h1, h2, by rw [g.eN]; exact h3, fun y hy hf => ?_, fun y hy hl => ?_⟩, ?_⟩
  · rw [g.es]
    rcases h4 y hy with (z | z) | z
    · exact absurd hf z
    · exact .inl z
    · exact .inr z
  · rw [g.eN]
    rcases h5 y hy with (z | z) | z
    · have : ¬(y.2 = .local ∨ y.2 = .cell) := by simpa using z
      exact absurd hl this
    · exact .inl z
    · exact .inr z
  · unfold ownOf
    rw [List.map_map]
    exact List.map_id' is
theorem takesF {X : Cx} : L2.Takes X W0 := fun u s' x => by
  obtain ⟨_, _, _, _, _, _, _, _, _, _, _, _, _, _, _, _, w⟩ := x
  exact w.elim
def Cal.blk {fi : Nat} {f : Addr} {dd : List D} (F : Cal X W P k fi f dd) (scope : Scope) (s : PySem.Shared) (H : Hp) (env : Env) (fp : List Addr) (W' : WX) : Cal (X.blk s H scope env fp) W' P k fi f dd :=
  ⟨F.fd, F.ps, F.N, F.ds, F.dvs, F.ok, F.hN, F.hc, F.hb, F.hd, F.hD⟩
theorem Gd.blk {scope : Scope} (g : Gd p P k N X W sc) (s : PySem.Shared) (H : Hp) (C : Addr) (cl : List (Str × Addr)) (fp : List Addr) : Gd p P k N (X.blk s H scope (PySem.compEnvC scope cl C X.env) fp) W0 (L2.relS scope sc) :=
  ⟨g.eN, g.nd, by rw [← g.es]; rfl, g.calm, g.room, takesF, ⟨fun x fi h => by
    obtain ⟨f, h1, h2, h3⟩ := g.fx.fn x fi h
    exact ⟨f, h1, h2, fun W => (h3 W).elim fun F => ⟨F.blk _ _ _ _ _ _⟩⟩, fun c m fi h => by
    obtain ⟨C, f, h1, h2, h3, h4⟩ := g.fx.mt c m fi h
    exact ⟨C, f, h1, h2, h3, fun W => (h4 W).elim fun F => ⟨F.blk _ _ _ _ _ _⟩⟩, fun c fi h => by
    obtain ⟨C, f, h1, h2, h4⟩ := g.fx.mak c fi h
    exact ⟨C, f, h1, h2, fun W => (h4 W).elim fun F => ⟨F.blk _ _ _ _ _ _⟩⟩, g.fx.fld, g.fx.fr, g.fx.gl, g.fx.pm, g.fx.pi, g.fx.pg⟩⟩
end
/-- by value, by test -/
def Both (P : Pg) (X : Cx) (W : WX) (b : Bool) (e : Expr) (t : T) : Prop := if b = true then PTf X W e (tst P t) else PEf X W e (ev P t)
section
variable {p : Prog} {P : Pg} {k : Nat} {N : List Str} {X : Cx} {W : WX} {sc : Scope} {e : Expr} {b : Bool} {t : T}
theorem both (ht : tst P t = bnd (ev P t) truR) (hp : plainTest e = true) (h : PEf X W e (ev P t)) : Both P X W b e t := by
  unfold Both
  cases b with
  | true => rw [if_pos rfl]; exact rt_any ht (plain_ok hp) h
  | false => rw [if_neg Bool.false_ne_true]; exact h
theorem only (hb : (!b) = true) (h : PEf X W e (ev P t)) : Both P X W b e t := by
  unfold Both
  cases b with
  | true => cases hb
  | false => rw [if_neg Bool.false_ne_true]; exact h
theorem Both.val (h : Both P X W false e t) : PEf X W e (ev P t) := h
theorem Both.tst (h : Both P X W true e t) : PTf X W e (Iv.tst P t) := h
def BothB (P : Pg) (X : Cx) (W : WX) (b : Bool) (es : List Expr) (ts : Ts) : Prop := es ≠ [] → ∀ op pos, if b = true then PW X (.BoolOp op es pos) (tB (tx X) W (bopt P op ts)) else PEf X W (.BoolOp op es pos) (bops P op ts)
theorem absent_ne (h : t ≠ .absent) : bound P t = bnd (ev P t) fun r => liftO fun g => match dview g r with | some (.int i) => some (some i) | _ => none := by
  cases t <;> first | (exact absurd rfl h) | (simp only [bound] <;> rfl)
theorem opt_ok {o : Option Expr} (h : optB t o (chkE p N t false sc) = true) (ih : ∀ e, chkE p N t false sc e = true → PEf X W e (ev P t)) : POf X W o (bound P t) := by
  by_cases ha : t = .absent
  · subst ha
    have ho : o.isNone = true := h
    cases o with
    | none => exact ro_none
    | some _ => cases ho
  · cases o with
    | none =>
      unfold optB at h
      split at h
      · exact absurd rfl ha
      · cases h
    | some e =>
      refine ro_some (absent_ne ha) (ih e ?_)
      unfold optB at h
      split at h
      · exact absurd rfl ha
      · exact h
theorem notSet {iter : Expr} {env : Env} (h : (!isSet iter) = true) : ∀ x, PySem.foldedSetIterable iter env x = pure x := by
  intro x
  cases iter <;> first | rfl | cases h
end
end Iv
set_option linter.all false
set_option autoImplicit false
set_option maxRecDepth 100000
set_option maxHeartbeats 4000000
/-! Iv28: the checker is right: expressions. -/
namespace Iv
open PySem (Str Expr Stmt CmpOp Operator BoolOp PyData Addr Value Scope Env Pos)
open L2 (V HO Hp upd upd_same upd_ne ne_of ne_of_none SqL SqT Rd Same WX TE TT TA TS TG TGs TI PE PT PA PS PSs PC PW PG PGs PI R2 OpR Cx CallR XK Ends TSet)

section
variable {p : Prog} {P : Pg} {k : Nat} {N : List Str}
theorem as_nil {ts : Ts} {sc : Scope} (h : chkAs p N ts sc [] = true) : ts = .nil := by
  cases ts with
  | nil => rfl
  | cons t ts => simp [chkAs] at h
theorem es_nil {ts : Ts} {b : Bool} {sc : Scope} (h : chkEs p N ts b sc [] = true) : ts = .nil := by
  cases ts with
  | nil => rfl
  | cons t ts => simp [chkEs] at h
mutual
theorem sndE : ∀ (t : T) (b : Bool) (sc : Scope) (e : Expr) {X : Cx} {W : WX}, Gd p P k N X W sc → chkE p N t b sc e = true → Both P X W b e t
  | .nm i, b, sc, e, X, W, g, h => by
    unfold chkE at h
    split at h
    case h_2 => cases h
    obtain ⟨h1, h2, h3, h4⟩ := g.nm h
    exact both (by simp only [tst]) rfl (r_nm h1 h2 h3 h4)
  | .mv i, b, sc, e, X, W, g, h => by
    unfold chkE at h
    split at h
    case h_2 => cases h
    obtain ⟨h1, h2, h3, h4⟩ := g.nm h
    exact both (by simp only [tst]) rfl (r_mv h1 h2 h3 h4)
  | .int i, b, sc, e, X, W, g, h => by
    unfold chkE at h
    split at h
    case h_2 => cases h
    simp only [Bool.and_eq_true, decide_eq_true_eq] at h
    obtain ⟨h1, rfl⟩ := h
    exact only h1 r_int'
  | .str i, b, sc, e, X, W, g, h => by
    unfold chkE at h
    split at h
    case h_2 => cases h
    simp only [Bool.and_eq_true, decide_eq_true_eq] at h
    obtain ⟨h1, rfl⟩ := h
    exact only h1 r_str'
  | .bl i, b, sc, e, X, W, g, h => by
    unfold chkE at h
    split at h
    case h_2 => cases h
    simp only [Bool.and_eq_true, decide_eq_true_eq] at h
    obtain ⟨h1, rfl⟩ := h
    exact only h1 r_bl'
  | .non, b, sc, e, X, W, g, h => by
    unfold chkE at h
    split at h
    case h_2 => cases h
    exact only h r_non'
  | .glob x, b, sc, e, X, W, g, h => by
    unfold chkE at h
    split at h
    case h_2 => cases h
    simp only [Bool.and_eq_true, decide_eq_true_eq] at h
    obtain ⟨⟨⟨rfl, h1⟩, h2⟩, h3⟩ := h
    refine both (by simp only [tst]) rfl (r_glob (g.gl h1) (dbg_ok h2).1 (fun d hd => g.fx.gl x d hd) ?_)
    rw [g.fx.pg]
    intro z
    rw [z] at h3
    cases h3
  | .bin op l' r', b, sc, e, X, W, g, h => by
    unfold chkE at h
    split at h
    case h_2 => cases h
    simp only [Bool.and_eq_true, decide_eq_true_eq] at h
    obtain ⟨⟨rfl, h1⟩, h2⟩ := h
    exact both (by simp only [tst]) rfl (r_bin (sndE l' false sc _ g h1).val (sndE r' false sc _ g h2).val)
  | .neg a, b, sc, e, X, W, g, h => by
    unfold chkE at h
    split at h
    case h_2 => cases h
    exact both (by simp only [tst]) rfl (r_neg (sndE a false sc _ g h).val)
  | .cmp op a c, b, sc, e, X, W, g, h => by
    unfold chkE at h
    split at h
    case h_2 => cases h
    simp only [Bool.and_eq_true, decide_eq_true_eq, Bool.not_eq_true'] at h
    obtain ⟨⟨⟨rfl, h1⟩, h2⟩, h3⟩ := h
    have ha := (sndE a false sc _ g h2).val
    have hc := (sndE c false sc _ g h3).val
    unfold Both
    cases b with
    | true => rw [if_pos rfl]; exact rt_cmp g.u65 h1 ha hc
    | false => rw [if_neg Bool.false_ne_true]; exact r_cmp g.u65 h1 ha hc
  | .chain o1 o2 a c d, b, sc, e, X, W, g, h => by
    unfold chkE at h
    split at h
    case h_2 => cases h
    simp only [Bool.and_eq_true, decide_eq_true_eq, Bool.not_eq_true'] at h
    obtain ⟨⟨⟨⟨⟨rfl, rfl⟩, h1⟩, h2⟩, h3⟩, h4⟩ := h
    have ha := (sndE a false sc _ g h2).val
    have hc := (sndE c false sc _ g h3).val
    have hd := (sndE d false sc _ g h4).val
    unfold Both
    cases b with
    | true => rw [if_pos rfl]; exact rt_chain g.u65 h1 ha hc hd
    | false => rw [if_neg Bool.false_ne_true]; exact r_chain g.u65 h1 ha hc hd
  | .bop op ts, b, sc, e, X, W, g, h => by
    unfold chkE at h
    split at h
    case h_2 => cases h
    rename_i op' es pos
    simp only [Bool.and_eq_true, decide_eq_true_eq, Bool.not_eq_true'] at h
    obtain ⟨⟨rfl, h1⟩, h2⟩ := h
    have hne : es ≠ [] := fun z => by rw [z] at h1; cases h1
    have q := (sndEs ts b sc es g h2).2 hne op pos
    unfold Both
    cases b with
    | true =>
      rw [if_pos rfl] at q ⊢
      have e1 : tst P (.bop op ts) = bopt P op ts := by simp only [tst]
      show PT X _ (tB (tx X) W (tst P (.bop op ts)))
      rw [e1]
      exact q.pt
    | false =>
      rw [if_neg Bool.false_ne_true] at q ⊢
      have e1 : ev P (.bop op ts) = bops P op ts := by simp only [ev]
      show PE X _ (tE (tx X) W (ev P (.bop op ts)))
      rw [e1]
      exact q
  | .not a, b, sc, e, X, W, g, h => by
    unfold chkE at h
    split at h
    case h_2 => cases h
    have q := sndE a b sc _ g h
    unfold Both at q ⊢
    cases b with
    | true => rw [if_pos rfl] at q ⊢; exact rt_not q
    | false => rw [if_neg Bool.false_ne_true] at q ⊢; exact r_not q
  | .ite c l r, b, sc, e, X, W, g, h => by
    unfold chkE at h
    split at h
    case h_2 => cases h
    simp only [Bool.and_eq_true] at h
    obtain ⟨⟨⟨h1, h2⟩, h3⟩, h4⟩ := h
    exact only h1 (r_ite (sndE c true sc _ g h2).tst (sndE l false sc _ g h3).val (sndE r false sc _ g h4).val)
  | .lst ts, b, sc, e, X, W, g, h => by
    unfold chkE at h
    split at h
    case h_2 => cases h
    simp only [Bool.and_eq_true] at h
    exact both (by simp only [tst]) rfl (r_lst ((sndEs ts false sc _ g h.2).1 rfl (all_ns h.1)))
  | .tup ts, b, sc, e, X, W, g, h => by
    unfold chkE at h
    split at h
    case h_2 => cases h
    simp only [Bool.and_eq_true] at h
    exact both (by simp only [tst]) rfl (r_tup ((sndEs ts false sc _ g h.2).1 rfl (all_ns h.1)))
  | .sub a i, b, sc, e, X, W, g, h => by
    unfold chkE at h
    split at h
    case h_2 => cases h
    simp only [Bool.and_eq_true] at h
    exact both (by simp only [tst]) rfl (r_sub h.1.1 (sndE a false sc _ g h.1.2).val (sndE i false sc _ g h.2).val)
  | .slc a lo hi, b, sc, e, X, W, g, h => by
    unfold chkE at h
    split at h
    case h_2 => cases h
    simp only [Bool.and_eq_true] at h
    exact both (by simp only [tst]) rfl (r_slc (sndE a false sc _ g h.1.1).val (opt_ok h.1.2 fun e he => (sndE lo false sc e g he).val) (opt_ok h.2 fun e he => (sndE hi false sc e g he).val))
  | .absent, b, sc, e, X, W, g, h => by
    unfold chkE at h
    cases h
  | .b1 f a, b, sc, e, X, W, g, h => by
    unfold chkE at h
    split at h
    case h_2 => cases h
    simp only [Bool.and_eq_true] at h
    obtain ⟨rfl, h1, h2⟩ := g.bi h.1.1
    exact both (by simp only [tst]) rfl (r_b1 f g.calm g.u70 h1 h2 h.1.2 (sndE a false sc _ g h.2).val)
  | .b2 f a c, b, sc, e, X, W, g, h => by
    unfold chkE at h
    split at h
    case h_2 => cases h
    simp only [Bool.and_eq_true] at h
    obtain ⟨⟨⟨⟨h0, h1⟩, h2⟩, h3⟩, h4⟩ := h
    obtain ⟨rfl, q1, q2⟩ := g.bi h0
    exact both (by simp only [tst]) rfl (r_b2 f g.calm q1 q2 h1 h2 (sndE a false sc _ g h3).val (sndE c false sc _ g h4).val)
  | .isi a tys, b, sc, e, X, W, g, h => by
    unfold chkE at h
    split at h
    case h_2 => cases h
    split at h
    case h_2 => cases h
    simp only [Bool.and_eq_true] at h
    obtain ⟨⟨⟨⟨h0, h1⟩, h2⟩, h3⟩, h4⟩ := h
    obtain ⟨rfl, q1, q2⟩ := g.bi h0
    obtain ⟨rfl, q3, q4⟩ := g.bi h2
    exact both (by simp only [tst]) rfl (r_isi h1 q1 q2 q3 q4 h3 (sndE a false sc _ g h4).val)
  | .call f ts dd, b, sc, e, X, W, g, h => by
    unfold chkE at h
    split at h
    case h_2 => cases h
    simp only [Bool.and_eq_true, decide_eq_true_eq] at h
    obtain ⟨⟨⟨⟨⟨h0, h1⟩, h2⟩, h3⟩, h4⟩, h5⟩ := h
    have hdd : dd = [] := List.isEmpty_iff.mp h1
    subst hdd
    obtain ⟨fa, q1, q2, q3⟩ := g.fx.fn _ f h0
    obtain ⟨F⟩ := q3 W
    refine both (by simp only [tst]) rfl (r_call F g.room (g.gl h2) q1 q2 g.tk (dbg_ok h3).1 (all_ns h4) (noany fun y hy => all_ns h4 y (List.mem_of_mem_tail hy)) (fun z => ?_) (sndAs ts sc _ g (all_ns h4) h5))
    subst z
    exact as_nil h5
  | .rf _, b, sc, e, X, W, g, h => by
    unfold chkE at h
    cases h
  | .ln _, b, sc, e, X, W, g, h => by
    unfold chkE at h
    cases h
  | .meth m o ts, b, sc, e, X, W, g, h => by
    unfold chkE at h
    split at h
    case h_2 => cases h
    simp only [Bool.and_eq_true, decide_eq_true_eq, Bool.or_eq_true, Bool.not_eq_true'] at h
    obtain ⟨⟨⟨⟨⟨⟨⟨rfl, h1⟩, h2⟩, h3⟩, h4⟩, h5⟩, h6⟩, h7⟩ := h
    refine both (by simp only [tst]) rfl (r_meth m g.u1 (sndE o false sc _ g h6).val h1 (all_ns h2) h3 h4 (fun z => ?_) ((sndEs ts false sc _ g h7).1 rfl (all_ns h2)))
    subst z
    rcases h5 with h5 | h5
    · cases h5
    · exact ⟨h5, es_nil h7⟩
  | .omet c o m ts dd, b, sc, e, X, W, g, h => by
    unfold chkE at h
    split at h
    case h_2 => cases h
    simp only [Bool.and_eq_true, decide_eq_true_eq] at h
    obtain ⟨⟨⟨⟨⟨⟨⟨⟨rfl, h1⟩, h2⟩, h3⟩, h4⟩, h5⟩, h6⟩, h7⟩, h8⟩ := h
    have hdd : dd = [] := List.isEmpty_iff.mp h1
    subst hdd
    obtain ⟨fi, hfi⟩ := Option.isSome_iff_exists.mp h2
    obtain ⟨C, fa, q1, q2, q3, q4⟩ := g.fx.mt c _ fi hfi
    obtain ⟨F⟩ := q4 W
    refine both (by simp only [tst]) rfl (r_omet (sndE o false sc _ g h7).val q2 q1 q3 (by rw [g.fx.pm]; exact hfi) F g.room g.tk (all_ns h4) h5 h3 h6 (fun z => ?_) (sndAs ts sc _ g (all_ns h4) h8))
    subst z
    exact as_nil h8
  | .ocon c a o, b, sc, e, X, W, g, h => by
    unfold chkE at h
    split at h
    case h_2 => cases h
    simp only [Bool.and_eq_true, Bool.not_eq_true'] at h
    obtain ⟨⟨⟨⟨h0, h1⟩, h2⟩, h3⟩, h4⟩ := h
    obtain ⟨fi, hfi⟩ := Option.isSome_iff_exists.mp h2
    obtain ⟨C, fa, q1, q2, q3, q4⟩ := g.fx.mt c _ fi hfi
    obtain ⟨F⟩ := q4 W
    exact only (by rw [h0]; rfl) (r_ocon (sndE a false sc _ g h3).val (sndE o false sc _ g h4).val h1 q1 q3 (by rw [g.fx.pm]; exact hfi) F g.room g.tk)
  | .mk c ts dd, b, sc, e, X, W, g, h => by
    unfold chkE at h
    split at h
    case h_2 => cases h
    simp only [Bool.and_eq_true, decide_eq_true_eq] at h
    obtain ⟨⟨⟨⟨⟨⟨rfl, h1⟩, h2⟩, h3⟩, h4⟩, h5⟩, h6⟩ := h
    have hdd : dd = [] := List.isEmpty_iff.mp h1
    subst hdd
    obtain ⟨fi, hfi⟩ := Option.isSome_iff_exists.mp h2
    obtain ⟨C, fa, q1, q2, q4⟩ := g.fx.mak _ fi hfi
    obtain ⟨F⟩ := q4 W
    refine both (by simp only [tst]) rfl (r_mk q2 (g.gl h3) q1 (by rw [g.fx.pi]; exact hfi) F g.room g.tk (dbg_ok h4).1 (all_ns h5) (fun z => ?_) (sndAs ts sc _ g (all_ns h5) h6))
    subst z
    exact as_nil h6
  | .attr o f, b, sc, e, X, W, g, h => by
    unfold chkE at h
    split at h
    case h_2 => cases h
    simp only [Bool.and_eq_true, decide_eq_true_eq] at h
    obtain ⟨⟨rfl, h1⟩, h2⟩ := h
    exact both (by simp only [tst]) rfl (r_attr (sndE o false sc _ g h2).val h1 g.fx.fld)
  | .dict0 tk, b, sc, e, X, W, g, h => by
    unfold chkE at h
    split at h
    case h_2 => cases h
    exact both (by simp only [tst]) rfl r_dict0
  | .lc tg it cnd t, b, sc, e, X, W, g, h => by
    unfold chkE at h
    split at h
    case h_2 => cases h
    rename_i elt te iter ifs scope pos
    simp only [Bool.and_eq_true] at h
    obtain ⟨⟨⟨⟨⟨h1, h2⟩, h3⟩, h4⟩, h5⟩, h6⟩ := h
    obtain ⟨bo, hv⟩ := g.blkOk h1
    have hN : X.N.Nodup := by rw [g.eN]; exact g.nd
    refine both (by simp only [tst]) rfl (PE.imp (L2.pe_lc (g := gTg X.K tg) (te := tE (tx X) W0 (ev P t)) (tt := tB (tx X) W0 (conds P cnd)) g.calm hN (sndIt it sc iter g h2) bo (fun s H C cl fp => (g.blk s H C cl fp).tg (fun x hx => hx) h4)
      (fun s H C cl fp => sndCs cnd _ ifs (g.blk s H C cl fp) h5) (fun s H C cl fp => (sndE t false _ elt (g.blk s H C cl fp) h6).val) (notSet h3)) ?_)
    rw [hv]
    exact fun σ H Q h => lc_imp h
theorem sndCs : ∀ (ts : Ts) (sc : Scope) (es : List Expr) {X : Cx} {W : WX}, Gd p P k N X W sc → chkCs p N ts sc es = true → L2.PTs X es (tB (tx X) W (conds P ts))
  | .nil, sc, es, X, W, g, h => by
    unfold chkCs at h
    have e : es = [] := List.isEmpty_iff.mp h
    subst e
    refine ⟨fun pins s σ H Q I hw => L2.pts_nil.run pins s σ H Q I ?_⟩
    obtain ⟨c, z, rfl, ok, h, p⟩ := hw
    simp only [conds] at h
    cases h
    exact p.fin ok rfl
  | .cons t ts, sc, es, X, W, g, h => by
    unfold chkCs at h
    split at h
    case h_2 => cases h
    have q := L2.pts_one (sndE t true sc _ g h).tst
    refine ⟨fun pins s σ H Q I hw => q.run pins s σ H Q I ?_⟩
    simpa only [conds] using hw
theorem sndEs : ∀ (ts : Ts) (b : Bool) (sc : Scope) (es : List Expr) {X : Cx} {W : WX}, Gd p P k N X W sc → chkEs p N ts b sc es = true → (b = false → (∀ y ∈ es, noStar y = true) → PAf X W es (evs P ts)) ∧ BothB P X W b es ts
  | .nil, b, sc, es, X, W, g, h => by
    unfold chkEs at h
    have e : es = [] := List.isEmpty_iff.mp h
    subst e
    exact ⟨fun _ _ => rA_nil, fun z => absurd rfl z⟩
  | .cons t ts, b, sc, es, X, W, g, h => by
    unfold chkEs at h
    split at h
    case h_2 => cases h
    rename_i e es
    simp only [Bool.and_eq_true] at h
    have h1 := sndE t b sc e g h.1
    have h2 := sndEs ts b sc es g h.2
    refine ⟨fun hb hs => ?_, fun _ op pos => ?_⟩
    · subst hb
      exact rA_cons (hs e (List.mem_cons_self ..)) h1.val (h2.1 rfl fun y hy => hs y (List.mem_cons_of_mem _ hy))
    · unfold Both at h1
      cases ts with
      | nil =>
        have e2 : es = [] := by
          have := h.2
          unfold chkEs at this
          exact List.isEmpty_iff.mp this
        subst e2
        cases b with
        | true => rw [if_pos rfl] at h1 ⊢; exact rw_one h1
        | false => rw [if_neg Bool.false_ne_true] at h1 ⊢; exact rb_one h1
      | cons t2 ts2 =>
        cases es with
        | nil =>
          have := h.2
          simp [chkEs] at this
        | cons e2 es2 =>
          have q := h2.2 (by simp) op pos
          cases b with
          | true => rw [if_pos rfl] at h1 q ⊢; exact rw_cons h1 q
          | false => rw [if_neg Bool.false_ne_true] at h1 q ⊢; exact rb_cons h1 q
theorem sndAs : ∀ (ts : Ts) (sc : Scope) (es : List Expr) {X : Cx} {W : WX}, Gd p P k N X W sc → (∀ y ∈ es, noStar y = true) → chkAs p N ts sc es = true → PRf X W es (args P ts)
  | .nil, sc, es, X, W, g, hs, h => by
    unfold chkAs at h
    have e : es = [] := List.isEmpty_iff.mp h
    subst e
    exact rR_nil
  | .cons t ts, sc, es, X, W, g, hs, h => by
    unfold chkAs at h
    split at h
    case h_2 => cases h
    rename_i e es
    simp only [Bool.and_eq_true] at h
    have h2 := sndAs ts sc es g (fun y hy => hs y (List.mem_cons_of_mem _ hy)) h.2
    have h1 := h.1
    split at h1
    · split at h1
      case h_2 => cases h1
      obtain ⟨q1, q2, q3, q4⟩ := g.nm h1
      exact rR_at (.inl rfl) (by simp only [args]) q1 q2 q3 q4 h2
    · split at h1
      case h_2 => cases h1
      obtain ⟨q1, q2, q3, q4⟩ := g.nm h1
      exact rR_at (.inr rfl) (by simp only [args]) q1 q2 q3 q4 h2
    · rename_i n1 n2
      refine rR_val ?_ (hs e (List.mem_cons_self ..)) (sndE t false sc e g h1).val h2
      cases t <;> first | (exact absurd rfl (n1 _)) | (exact absurd rfl (n2 _)) | (simp only [args])
theorem sndIt : ∀ (it : It) (sc : Scope) (e : Expr) {X : Cx} {W : WX} {te : Expr}, Gd p P k N X W sc → chkIt p N it sc e = true → PIf X W te e (items P it)
  | .seq t, sc, e, X, W, te, g, h => by
    unfold chkIt at h
    exact ri_seq (sndE t false sc e g h).val
  | .rng1 a, sc, e, X, W, te, g, h => by
    unfold chkIt at h
    split at h
    case h_2 => cases h
    simp only [Bool.and_eq_true] at h
    obtain ⟨rfl, q1, q2⟩ := g.bi h.1.1
    exact ri_rng1 q1 q2 h.1.2 (sndE a false sc _ g h.2).val
  | .rng2 a c, sc, e, X, W, te, g, h => by
    unfold chkIt at h
    split at h
    case h_2 => cases h
    simp only [Bool.and_eq_true] at h
    obtain ⟨⟨⟨⟨h0, h1⟩, h2⟩, h3⟩, h4⟩ := h
    obtain ⟨rfl, q1, q2⟩ := g.bi h0
    exact ri_rng2 q1 q2 h1 h2 (sndE a false sc _ g h3).val (sndE c false sc _ g h4).val
  | .zip _ _, sc, e, X, W, te, g, h => by
    unfold chkIt at h
    cases h
  | .enum _, sc, e, X, W, te, g, h => by
    unfold chkIt at h
    cases h
end
end
end Iv
set_option linter.all false
set_option autoImplicit false
set_option maxRecDepth 100000
set_option maxHeartbeats 4000000
/-! Iv29: the checker is right: statements; defs; the whole program. -/
namespace Iv
open PySem (Str Expr Stmt CmpOp Operator BoolOp PyData Addr Value Scope Env Pos)
open L2 (V HO Hp upd upd_same upd_ne ne_of ne_of_none SqL SqT Rd Same WX TE TT TA TS TG TGs TI PE PT PA PS PSs PC PW PG PGs PI R2 OpR Cx CallR XK Ends TSet)

section
variable {p : Prog} {P : Pg} {k : Nat} {N : List Str} {X : Cx} {W : WX} {sc : Scope} {v te : Expr} {ln : Nat} {env : Env}
structure GdS (p : Prog) (P : Pg) (k : Nat) (N : List Str) (X : Cx) (W : WX) (sc : Scope) : Prop where
  g : Gd p P k N X W sc
  po : PySem.PassesOwn (PySem.model X.prog X.w) X.A X.env X.xe
  fn : ∀ x, X.fn x = true
  kd : sc.kind = .function
theorem sw_plain {o : Option Expr} (h : isComp v = false) : PySem.swapsWith v o ln env = pure false := by
  cases v <;> first | rfl | cases h
theorem sw_sub {a b : Expr} {q : Pos} : PySem.swapsWith v (some (.Subscript a b q)) ln env = pure false := by cases v <;> rfl
theorem sw_attr {a : Expr} {f : Str} {q : Pos} : PySem.swapsWith v (some (.Attribute a f q)) ln env = pure false := by cases v <;> rfl
theorem sw_tup {a : List Expr} {f : Nat} {q : Pos} : PySem.swapsWith v (some (.Tuple a f q)) ln env = pure false := by cases v <;> rfl
theorem so_plain (h : isComp v = false) : PySem.swapsWithSole [te] v ln env = pure false := sw_plain (o := some te) h
theorem so_sub {a b : Expr} {q : Pos} : PySem.swapsWithSole [.Subscript a b q] v ln env = pure false := sw_sub (ln := ln) (env := env) (a := a) (b := b) (q := q)
theorem so_tup {a : List Expr} {f : Nat} {q : Pos} : PySem.swapsWithSole [.Tuple a f q] v ln env = pure false := sw_tup (ln := ln) (env := env) (a := a) (f := f) (q := q)
theorem st_name {x : Str} {q : Pos} : PySem.swappedStores [.Name x q] v env = pure none := by cases v <;> rfl
theorem st_sub {a b : Expr} {q : Pos} : PySem.swappedStores [.Subscript a b q] v env = pure none := by cases v <;> rfl
theorem st_tup {a : List Expr} {f : Nat} {q : Pos} (h : isTup v = false) : PySem.swappedStores [.Tuple a f q] v env = pure none := by
  cases v <;> first | rfl | cases h
theorem bk_fn (h : env.scope.kind = .function) : env.blockKind = .function := by
  unfold PySem.Env.blockKind
  rw [h]
  split <;> rfl
theorem GdS.lc {s : Scope} {elt : Expr} {gens : List PySem.Comprehension} {vp py : Pos} {y : Str} {b : Bool} (g : GdS p P k N X W sc) (h : swaps sc (.ListComp elt gens s vp) (.Name y py) = b) : PySem.swapsWith (.ListComp elt gens s vp) (some (.Name y py)) ln X.env = pure b := by
  have e1 : PySem.swapsWith (.ListComp elt gens s vp) (some (.Name y py)) ln X.env = pure (X.env.blockKind == .function && X.env.kindOf y == some .local && py.line == vp.line && !(s.names.any fun (n, k) => n == y && (k == .local || k == .cell))) := rfl
  have hk : X.env.blockKind = .function := bk_fn (by rw [g.g.es]; exact g.kd)
  have hl : (X.env.kindOf y == some PySem.NameKind.local) = decide (sc.names.lookup y = some .local) := by
    show (X.env.scope.names.lookup y == some PySem.NameKind.local) = _
    rw [g.g.es]
    by_cases e : sc.names.lookup y = some .local
    · rw [e]; rfl
    · rw [decide_eq_false e]
      exact beq_false_of_ne e
  rw [e1, hk, hl]
  have h' : (decide (sc.names.lookup y = some .local) && (py.line == vp.line) && !(s.names.any fun (n, k) => n == y && (k == .local || k == .cell))) = b := h
  rw [← h']
  rfl
end
section
variable {p : Prog} {P : Pg} {k : Nat} {N : List Str}
theorem lc_parts {t : T} {sc : Scope} {elt : Expr} {gens : List PySem.Comprehension} {scope : Scope} {pos : Pos} (h : chkE p N t false sc (.ListComp elt gens scope pos) = true) : ∃ tg it cnd t' te iter ifs, t = .lc tg it cnd t' ∧ gens = [⟨te, iter, ifs, 0⟩] ∧
    blkB N sc scope (ownOf N tg.slots) = true ∧ chkIt p N it sc iter = true ∧ (!isSet iter) = true ∧ chkG N (fun x => scope.names.lookup x == some .cell) (L2.relS scope sc) tg te = true ∧ chkCs p N cnd (L2.relS scope sc) ifs = true ∧ chkE p N t' false (L2.relS scope sc) elt = true := by
  cases t with
  | lc tg it cnd t' =>
    unfold chkE at h
    split at h
    case h_2 => cases h
    rename_i e
    cases e
    simp only [Bool.and_eq_true] at h
    obtain ⟨⟨⟨⟨⟨h1, h2⟩, h3⟩, h4⟩, h5⟩, h6⟩ := h
    exact ⟨tg, it, cnd, t', _, _, _, rfl, rfl, h1, h2, h3, h4, h5, h6⟩
  | isi a tys =>
    unfold chkE at h
    split at h
    · simp at h
    · cases h
  | _ => simp [chkE] at h
theorem snd_asg {tg : Tg} {fr : Bool} {t : T} {sc : Scope} {v te : Expr} {pos : Pos} {X : Cx} {W : WX} (g : GdS p P k N X W sc) (hg : chkG N (fun _ => true) sc tg te = true) (hv : chkE p N t false sc v = true) (hc : isComp v = true → ∃ elt gens s vp, v = .ListComp elt gens s vp) (ht : isTup te = true → isTup v = false) : PSf X W (.Assign [te] v pos) (ex P (.asg tg fr t)) := by
  have pg := g.g.tg (fb := fun _ => true) (fun x _ => g.fn x) hg
  have pe := (sndE t false sc v g.g hv).val
  have hN : X.N.Nodup := by rw [g.g.eN]; exact g.g.nd
  cases tg with
  | tup is =>
    cases te with
    | Tuple es q r => exact rs_asg (L2.ps_asg pe pg so_tup (st_tup (ht rfl)) rfl)
    | _ => cases hg
  | nm i =>
    cases te with
    | Name x q =>
      cases hcv : isComp v with
      | false => exact rs_asg (L2.ps_asg pe pg (so_plain hcv) st_name rfl)
      | true =>
        obtain ⟨elt, gens, s, vp, rfl⟩ := hc hcv
        cases hsw : swaps sc (.ListComp elt gens s vp) (.Name x q) with
        | false => exact rs_asg (L2.ps_asg pe pg (g.lc (ln := pos.line) hsw) st_name rfl)
        | true =>
          obtain ⟨tg', it, cnd, t', te', iter, ifs, rfl, rfl, h1, h2, h3, h4, h5, h6⟩ := lc_parts hv
          obtain ⟨bo, hvs⟩ := g.g.blkOk h1
          have hg' : tgNm N (fun _ => true) sc i x = true := hg
          unfold tgNm at hg'
          simp only [Bool.and_eq_true, decide_eq_true_eq] at hg'
          have hloc : X.env.scope.names.lookup x = some .local := by
            have h' : (decide (sc.names.lookup x = some .local) && (q.line == vp.line) && !(s.names.any fun (n, k) => n == x && (k == .local || k == .cell))) = true := hsw
            simp only [Bool.and_eq_true, decide_eq_true_eq] at h'
            rw [g.g.es]
            exact h'.1.1
          refine rs_asg (PS.imp (L2.ps_setLc (i := i) (g := gTg X.K tg') (te := tE (tx X) W0 (ev P t')) (tt := tB (tx X) W0 (conds P cnd)) g.g.calm hN (by rw [g.g.eN]; exact hg'.1) hloc (g.lc hsw) (sndIt it sc iter g.g h2) bo (fun s H C cl fp => (g.g.blk s H C cl fp).tg (fun x hx => hx) h4)
            (fun s H C cl fp => sndCs cnd _ ifs (g.g.blk s H C cl fp) h5) (fun s H C cl fp => (sndE t' false _ elt (g.g.blk s H C cl fp) h6).val) (notSet h3)) ?_)
          rw [hvs]
          exact fun D σ H h => lc_imp h
    | _ => cases hg
mutual
theorem sndS : ∀ (s : S) (sc : Scope) (st : Stmt) {X : Cx} {W : WX}, GdS p P k N X W sc → chkS p N sc s st = true → PSf X W st (ex P s)
  | .asg tg fr t, sc, st, X, W, g, h => by
    unfold chkS at h
    split at h
    case h_2 => cases h
    rename_i te v pos
    simp only [Bool.and_eq_true, Bool.or_eq_true, Bool.not_eq_true'] at h
    obtain ⟨⟨⟨h1, h2⟩, h3⟩, h4⟩ := h
    refine snd_asg g h1 h2 (fun hc => ?_) (fun ht => ?_)
    · rw [if_pos hc] at h3
      split at h3
      · exact ⟨_, _, _, _, rfl⟩
      · cases h3
    · rcases h4 with h4 | h4
      · rw [ht] at h4; cases h4
      · exact h4
  | .setSub o i t, sc, st, X, W, g, h => by
    unfold chkS at h
    split at h
    case h_2 => cases h
    simp only [Bool.and_eq_true] at h
    obtain ⟨⟨⟨h1, h2⟩, h3⟩, h4⟩ := h
    have hset : L2.PSet X setAll := by
      intro pins s σ H o i v ov iv u Q I ro ri rv q
      rcases q with q | q
      · exact L2.set_list pins s σ H o i v ov iv u Q I ro ri rv q
      · exact L2.set_dict g.g.u1 pins s σ H o i v ov iv u Q I ro ri rv q
    refine rs_setSub (L2.ps_asg (sndE t false sc _ g.g h2).val (L2.pg_sub (sndE o false sc _ g.g h3).val (sndE i false sc _ g.g h4).val hset (fun v => ?_)) so_sub st_sub rfl)
    rename_i ei _ _ _
    cases ei <;> first | rfl | cases h1
  | .setAttr o f t, sc, st, X, W, g, h => by
    unfold chkS at h
    split at h
    case h_2 => cases h
    simp only [Bool.and_eq_true, decide_eq_true_eq] at h
    obtain ⟨⟨rfl, h1⟩, h2⟩ := h
    exact rs_setAttr (sndE o false sc _ g.g h2).val (sndE t false sc _ g.g h1).val sw_attr g.g.fx.fld
  | .aug i op t, sc, st, X, W, g, h => by
    unfold chkS at h
    split at h
    case h_2 => cases h
    simp only [Bool.and_eq_true, decide_eq_true_eq] at h
    obtain ⟨⟨rfl, h1⟩, h2⟩ := h
    unfold tgNm at h1
    simp only [Bool.and_eq_true, Bool.or_eq_true, decide_eq_true_eq] at h1
    exact rs_aug (by rw [g.g.eN]; exact g.g.nd) (by rw [g.g.eN]; exact h1.1) (by
      rw [g.g.es]
      rcases h1.2 with z | z
      · exact .inl z
      · exact .inr z.1) (.inl (g.fn _)) (sndE t false sc _ g.g h2).val
  | .expr t, sc, st, X, W, g, h => by
    unfold chkS at h
    split at h
    case h_2 => cases h
    simp only [Bool.and_eq_true, Bool.not_eq_true'] at h
    exact rs_expr (sndE t false sc _ g.g h.2).val (sw_plain h.1)
  | .ite c a b, sc, st, X, W, g, h => by
    unfold chkS at h
    split at h
    case h_2 => cases h
    simp only [Bool.and_eq_true] at h
    exact rs_ite (sndE c true sc _ g.g h.1.1).tst (sndSs a sc _ g h.1.2) (sndSs b sc _ g h.2)
  | .for_ tg it body, sc, st, X, W, g, h => by
    unfold chkS at h
    split at h
    case h_2 => cases h
    simp only [Bool.and_eq_true] at h
    obtain ⟨⟨⟨h1, h2⟩, h3⟩, h4⟩ := h
    exact rs_for g.po g.g.calm (sndIt it sc _ g.g h2) (g.g.tg (fb := fun _ => true) (fun x _ => g.fn x) h1) (sndSs body sc _ g h4) (notSet h3)
  | .whl n c body, sc, st, X, W, g, h => by
    unfold chkS at h
    split at h
    case h_2 => cases h
    simp only [Bool.and_eq_true] at h
    exact rs_whl g.po (sndE c true sc _ g.g h.1).tst (sndSs body sc _ g h.2)
  | .ret t, sc, st, X, W, g, h => by
    unfold chkS at h
    split at h
    case h_2 => cases h
    exact rs_ret (sndE t false sc _ g.g h).val
  | .retN, sc, st, X, W, g, h => by
    unfold chkS at h
    split at h
    case h_2 => cases h
    exact rs_retN
  | .pass, sc, st, X, W, g, h => by
    unfold chkS at h
    split at h
    case h_2 => cases h
    exact rs_pass
  | .brk, sc, st, X, W, g, h => by
    unfold chkS at h
    split at h
    case h_2 => cases h
    exact rs_brk
  | .cnt, sc, st, X, W, g, h => by
    unfold chkS at h
    split at h
    case h_2 => cases h
    exact rs_cnt
  | .frz i, sc, st, X, W, g, h => by
    unfold chkS at h
    cases h
theorem sndSs : ∀ (ss : Ss) (sc : Scope) (sts : List Stmt) {X : Cx} {W : WX}, GdS p P k N X W sc → chkSs p N sc ss sts = true → PSsf X W sts (exs P ss)
  | .nil, sc, sts, X, W, g, h => by
    unfold chkSs at h
    have e : sts = [] := List.isEmpty_iff.mp h
    subst e
    exact rs_nil
  | .cons s ss, sc, sts, X, W, g, h => by
    unfold chkSs at h
    split at h
    · exact rs_frz (sndSs ss sc sts g h)
    · split at h
      case h_2 => cases h
      simp only [Bool.and_eq_true] at h
      exact rs_cons (sndS s sc _ g h.1) (sndSs ss sc _ g h.2)
end
end
end Iv
set_option linter.all false
set_option autoImplicit false
set_option maxRecDepth 100000
set_option maxHeartbeats 4000000
/-! Iv30: every def of a checked program keeps its promise. -/
namespace Iv
open PySem (Str Expr Stmt CmpOp Operator BoolOp PyData Addr Value Scope Env Pos)
open L2 (V HO Hp upd upd_same upd_ne ne_of ne_of_none SqL SqT Rd Same WX TE TT TA TS TG TGs TI PE PT PA PS PSs PC PW PG PGs PI R2 OpR Cx CallR XK Ends TSet)

/-- a def as it is written -/
structure DefI where
  x : Str
  qual : Str
  params : PySem.Arguments
  body : List Stmt
  scope : Scope
  N : List Str
  ps : List Str
def okDef (p : Prog) (d : DefI) (F : Fn) : Bool := C8.scC d.N d.ps d.scope && chkSs p d.N d.scope F.body d.body && decide (d.N.length = F.nn) && decide (d.ps.length = F.np) && decide (d.ps.length ≤ d.N.length)
def okAll (p : Prog) : List DefI → List Fn → Bool
  | [], [] => true
  | d :: ds, F :: Fs => okDef p d F && okAll p ds Fs
  | _, _ => false
theorem okAll_get {p : Prog} : ∀ {ds : List DefI} {Fs : List Fn} {i : Nat} {F : Fn}, okAll p ds Fs = true → Fs[i]? = some F → ∃ d, ds[i]? = some d ∧ okDef p d F = true
  | [], [], i, F, h, e => by simp at e
  | [], _ :: _, i, F, h, e => by cases h
  | _ :: _, [], i, F, h, e => by cases h
  | d :: ds, G :: Fs, 0, F, h, e => by
    simp only [List.getElem?_cons_zero, Option.some.injEq] at e
    subst e
    have h' : (okDef p d G && okAll p ds Fs) = true := h
    simp only [Bool.and_eq_true] at h'
    exact ⟨d, rfl, h'.1⟩
  | d :: ds, G :: Fs, i + 1, F, h, e => by
    have h' : (okDef p d G && okAll p ds Fs) = true := h
    simp only [Bool.and_eq_true] at h'
    obtain ⟨d', h1, h2⟩ := okAll_get (i := i) h'.2 (by simpa using e)
    exact ⟨d', by simpa using h1, h2⟩
theorem okAll_len {p : Prog} : ∀ {ds : List DefI} {Fs : List Fn}, okAll p ds Fs = true → ds.length = Fs.length
  | [], [], h => rfl
  | [], _ :: _, h => by cases h
  | _ :: _, [], h => by cases h
  | d :: ds, G :: Fs, h => by
    have h' : (okDef p d G && okAll p ds Fs) = true := h
    simp only [Bool.and_eq_true] at h'
    rw [List.length_cons, List.length_cons, okAll_len h'.2]
/-- what the written part K and the module's names tell -/
structure Kn (p : Prog) (ds : List DefI) (K : PySem.W.Frag) (mg : Str → Option Value) (adr : Nat → Addr) (fdo : Nat → PySem.FuncData) : Prop where
  fun_ : ∀ i d, ds[i]? = some d → L2.FunD K d.x d.qual d.params d.body d.scope [] [] (adr i) (fdo i)
  bnd : ∀ i d, ds[i]? = some d → L2.Binds K (fdo i) d.ps []
  fn : ∀ x i, p.fnOf x = some i → i < ds.length ∧ mg x = some (.ref (adr i))
  mt : ∀ c m i, p.meth c m = some i → i < ds.length ∧ ∃ C, mg c = some (.ref C) ∧ L2.Cls K C ∧ L2.Meth K C m (adr i)
  mak : ∀ c i, p.init c = some i → i < ds.length ∧ ∃ C, mg c = some (.ref C) ∧ L2.Mk K C (adr i)
  fld : ∀ c f C, p.fld c f = true → mg c = some (.ref C) → L2.Cls K C ∧ L2.NoAttr K C f
  fr : ∀ x, p.free x = true → mg x = none
  gl : ∀ x d, p.glob x = some d → ∃ u v, mg x = some u ∧ L2.RelV v u ∧ ∀ S, R ⟨K, mg⟩ S d v

section
variable {p : Prog} {ds : List DefI} {K : PySem.W.Frag} {mg : Str → Option Value} {adr : Nat → Addr} {fdo : Nat → PySem.FuncData} {P : PySem.Program} {w : PySem.World} {base : PySem.Heap}
theorem callFn_some {Pg' : Pg} {F : Fn} {as : List Arg} {cs : List Inst} {r : Out Res × List C × List Inst} (h : callFn Pg' F as cs = some r) : as.length = F.np ∧ ∃ o g' outs, exs Pg' F.body ⟨initRho F.nn as, cs⟩ = some (o, g') ∧ outsOf g' 0 as = some outs ∧
    ((∃ a, o = .ok (.ret a) ∧ r = (.ok a, outs, g'.cs)) ∨ (o = .ok .next ∧ r = (.ok (.val .non), outs, g'.cs)) ∨ ∃ x, o = .exc x ∧ r = (.exc x, outs, g'.cs)) := by
  unfold callFn at h
  split at h
  case isFalse => cases h
  rename_i hl
  refine ⟨hl, ?_⟩
  split at h
  case h_2 => cases h
  rename_i o g' he
  split at h
  case h_2 => cases h
  rename_i outs ho
  refine ⟨o, g', outs, he, ho, ?_⟩
  split at h
  · cases h; exact .inl ⟨_, rfl, rfl⟩
  · cases h; exact .inr (.inl ⟨rfl, rfl⟩)
  · cases h
  · cases h; exact .inr (.inr ⟨_, rfl, rfl⟩)
theorem run_len {k i : Nat} {as : List Arg} {cs : List Inst} {r : Out Res × List C × List Inst} (h : run p k i as cs = some r) : ∃ F, p.fns[i]? = some F ∧ as.length = F.np := by
  match k, h with
  | k + 2, h =>
    unfold run at h
    split at h
    · rename_i F hF
      exact ⟨F, hF, (callFn_some h).1⟩
    · cases h
theorem spF_len {X : Tx} {N : List Str} {np : Nat} {f : Sem0} {vs : List V} {H : Hp} {Q : L2.VK} {E : XK} (h : spF X N np f vs H Q E) : vs.length = np := by
  obtain ⟨_, _, _, _, h, _⟩ := h
  exact h
/-- a def, called -/
def cal_of {X : Cx} {W : WX} {Pg' : Pg} {k i : Nat} {d : DefI} (kn : Kn p ds X.K X.mg adr fdo) (ok : okAll p ds p.fns = true) (hi : ds[i]? = some d) (hc : Pg'.call i = run p k i) (ih : L2.FnOk X.prog X.w X.K X.mg X.base (L2.CX X.prog X.w) k (adr i) (fdo i) d.ps (spF (tx X) d.N d.ps.length (run p k i))) : Cal X W Pg' k i (adr i) [] :=
  ⟨fdo i, d.ps, d.N, [], [], by rw [hc]; exact ih, by
    have hlt := (List.getElem?_eq_some_iff.mp hi).1
    rw [okAll_len ok] at hlt
    obtain ⟨d', h1, h2⟩ := okAll_get ok (List.getElem?_eq_getElem hlt)
    rw [hi] at h1
    cases h1
    unfold okDef at h2
    simp only [Bool.and_eq_true, decide_eq_true_eq] at h2
    exact h2.2, fun as cs r h => by
    rw [hc] at h
    obtain ⟨F, h1, h2⟩ := run_len h
    obtain ⟨d', h3, h4⟩ := okAll_get ok h1
    rw [hi] at h3
    cases h3
    unfold okDef at h4
    simp only [Bool.and_eq_true, decide_eq_true_eq] at h4
    exact h2.trans h4.1.2.symm, kn.bnd i d hi, .nil, fun S => by simp [RL]⟩
theorem fn_ok (kn : Kn p ds K mg adr fdo) (ok : okAll p ds p.fns = true) : ∀ (k i : Nat) (d : DefI), ds[i]? = some d → L2.FnOk P w K mg base (L2.CX P w) k (adr i) (fdo i) d.ps (spF ⟨K, mg⟩ d.N d.ps.length (run p k i)) := by
  intro k
  induction k using Nat.strongRecOn with
  | _ k ih =>
  intro i d hi
  match k with
  | 0 => exact ⟨fun vs H Q E h => spF_len h, fun A outer s H args us vs Q E _ _ _ _ h => by obtain ⟨_, _, _, _, _, _, _, _, h, _⟩ := h; cases h⟩
  | 1 => exact ⟨fun vs H Q E h => spF_len h, fun A outer s H args us vs Q E _ _ _ _ h => by obtain ⟨_, _, _, _, _, _, _, _, h, _⟩ := h; cases h⟩
  | k + 2 =>
    have hlt := (List.getElem?_eq_some_iff.mp hi).1
    rw [okAll_len ok] at hlt
    have hF : p.fns[i]? = some p.fns[i] := List.getElem?_eq_getElem hlt
    obtain ⟨d', h1, h2⟩ := okAll_get ok hF
    rw [hi] at h1
    cases h1
    generalize p.fns[i] = F at hF h2
    unfold okDef at h2
    simp only [Bool.and_eq_true, decide_eq_true_eq] at h2
    obtain ⟨⟨⟨⟨hsc, hck⟩, hnn⟩, hnp⟩, hle⟩ := h2
    have S := C8.fnScope_by hsc
    refine (kn.fun_ i d hi).ok S (fun vs H Q E h => spF_len h) (fun cdv A outer s H vs Q E hr h => ?_)
    generalize hX : L2.cxOf (L2.CX P w) P w K mg base d.N d.qual d.scope (adr i) cdv A outer s H E = X
    have eK : X.K = K := by rw [← hX]; rfl
    have em : X.mg = mg := by rw [← hX]; rfl
    have ep : X.prog = P := by rw [← hX]; rfl
    have ew : X.w = w := by rw [← hX]; rfl
    have eb : X.base = base := by rw [← hX]; rfl
    have knX : Kn p ds X.K X.mg adr fdo := by rw [eK, em]; exact kn
    have cal : ∀ (W : WX) (Pg' : Pg) (j : Nat), j < k + 2 → (∀ i, Pg'.call i = run p j i) → ∀ i, i < ds.length → Nonempty (Cal X W Pg' j i (adr i) []) := by
      intro W Pg' j hj hc i' hi'
      refine ⟨cal_of knX ok (List.getElem?_eq_getElem hi') (hc i') ?_⟩
      have := ih j hj i' _ (List.getElem?_eq_getElem hi')
      rw [ep, ew, eb]
      show L2.FnOk P w X.K X.mg base (L2.CX P w) j (adr i') (fdo i') _ (spF ⟨X.K, X.mg⟩ _ _ _)
      rw [eK, em]
      exact this
    have fx : Fx p (p.pg (run p (k + 1)) (run p k)) k X := by
      refine ⟨fun x fi hf => ?_, fun c m fi hf => ?_, fun c fi hf => ?_, fun c f C h1 h2 => ?_, fun x hx => ?_, fun x e he => ?_, rfl, rfl, rfl⟩
      · obtain ⟨q1, q2⟩ := knX.fn x fi hf
        exact ⟨adr fi, q2, (knX.fun_ fi _ (List.getElem?_eq_getElem q1)).kp, fun W => cal W _ (k + 1) (by omega) (fun _ => rfl) fi q1⟩
      · obtain ⟨q1, C, q2, q3, q4⟩ := knX.mt c m fi hf
        exact ⟨C, adr fi, q2, q3, q4, fun W => cal W _ (k + 1) (by omega) (fun _ => rfl) fi q1⟩
      · obtain ⟨q1, C, q2, q3⟩ := knX.mak c fi hf
        exact ⟨C, adr fi, q2, q3, fun W => cal W _ k (by omega) (fun _ => rfl) fi q1⟩
      · exact knX.fld c f C h1 h2
      · exact knX.fr x hx
      · exact knX.gl x e he
    let W : WX := fun cls dx _ H => E cls dx H
    have g : Gd p (p.pg (run p (k + 1)) (run p k)) k d.N X W d.scope := by
      refine ⟨by rw [← hX]; rfl, S.nd, by rw [← hX]; rfl, by rw [← hX]; rfl, by rw [← hX]; exact hr, ?_, fx⟩
      rw [← hX]
      exact L2.takes_of rfl rfl rfl rfl
    have gs : GdS p (p.pg (run p (k + 1)) (run p k)) k d.N X W d.scope := by
      refine ⟨g, ?_, fun x => by rw [← hX]; rfl, S.kind⟩
      rw [← hX]
      exact L2.passes_of rfl
    refine ⟨tSt (tx X) W (exs (p.pg (run p (k + 1)) (run p k)) F.body), sndSs F.body d.scope d.body gs hck, ?_⟩
    obtain ⟨as, c, r, hal, hvl, rfl, hrho, okc, hrun, hok, hex⟩ := h
    have etx : tx X = ⟨K, mg⟩ := by show (⟨X.K, X.mg⟩ : Tx) = _; rw [eK, em]
    rw [etx]
    have hrun' : callFn (p.pg (run p (k + 1)) (run p k)) F as c.g.cs = some r := by
      have := hrun
      unfold run at this
      rw [hF] at this
      exact this
    obtain ⟨_, o, g', outs, hexs, houts, hcase⟩ := callFn_some hrun'
    have hg : (⟨initRho F.nn as, c.g.cs⟩ : Sg) = c.g := by rw [← hnn, ← hrho]
    rw [hg] at hexs
    refine ⟨c, (o, g'), rfl, okc, hexs, fun fl hfl σ' c' hg' st ok' => ?_, fun x hx cls dx σ' c' hg' st ok' rx => ?_⟩
    · have hfl' : o = .ok fl := hfl
      have hg2 : c'.g = g' := hg'
      subst hfl' hg2
      rcases hcase with ⟨a, e1, rfl⟩ | ⟨e1, rfl⟩ | ⟨x, e1, _⟩
      · cases e1
        obtain ⟨nb, q⟩ := hok a rfl
        exact ⟨nb, fun v rr => q v σ' c' st ok' houts rfl rr⟩
      · cases e1
        obtain ⟨nb, q⟩ := hok (.val .non) rfl
        exact q .non σ' c' st ok' houts rfl (by simp [RR, R])
      · cases e1
    · have hx' : o = .exc x := hx
      have hg2 : c'.g = g' := hg'
      subst hx' hg2
      rcases hcase with ⟨a, e1, _⟩ | ⟨e1, _⟩ | ⟨y, e1, rfl⟩
      · cases e1
      · cases e1
      · cases e1
        exact hex x rfl cls dx σ' c' st ok' houts rfl rx
end
end Iv
set_option linter.all false
set_option autoImplicit false
set_option maxRecDepth 100000
set_option maxHeartbeats 4000000
/-! Iv31: from the head's facts to the program; a law's end. -/
namespace Iv
open PySem (Str Expr Stmt CmpOp Operator BoolOp PyData Addr Value Scope Env Pos)
open L2 (V HO Hp upd upd_same upd_ne ne_of ne_of_none SqL SqT Rd Same WX TE TT TA TS TG TGs TI PE PT PA PS PSs PC PW PG PGs PI R2 OpR Cx CallR XK Ends TSet)

/-- a class's statements -/
def subs : Stmt → List Stmt
  | .ClassDef _ _ _ b _ _ _ _ _ _ _ => b
  | _ => []
/-- a program as it is described -/
structure Desc where
  defs : List (He.DefD × List Str × List Str)
  fns : List Fn
  fnL : List (Str × Nat)
  mtL : List ((Str × Str) × Nat)
  inL : List (Str × Nat)
  fldL : List (Str × Str)
  frL : List Str
  intL : List (Str × Int)
  strL : List (Str × Str)
def Desc.ds (d : Desc) : List DefI := d.defs.map fun q => ⟨q.1.name, q.1.qual, q.1.params, q.1.body, q.1.scope, q.2.1, q.2.2⟩
def Desc.prog (d : Desc) : Prog where
  fns := d.fns
  fld := fun c f => d.fldL.contains (c, f)
  glob := fun x => match d.intL.lookup x with
    | some i => some (.int i)
    | none => (d.strL.lookup x).map .str
  meth := fun c m => d.mtL.lookup (c, m)
  init := fun c => d.inL.lookup c
  fnOf := fun x => d.fnL.lookup x
  free := fun x => d.frL.contains x
def Desc.fa (d : Desc) : List He.Fa := d.fnL.map (fun q => .glo q.1) ++ (d.frL.map .free ++ (d.intL.map (fun q => .int q.1 q.2) ++ (d.strL.map (fun q => .str q.1 q.2) ++ (d.mtL.flatMap (fun q => [.glo q.1.1, .cls q.1.1, .meth q.1.1 q.1.2]) ++ (d.inL.flatMap (fun q => [.glo q.1, .mkr q.1]) ++ d.fldL.flatMap fun q => [.glo q.1, .cls q.1, .noat q.1 q.2])))))
/-- the tables tell where the defs stand -/
def Desc.ok (d : Desc) : Bool := okAll d.prog d.ds d.fns && d.fnL.all (fun q => decide ((d.defs[q.2]?).map (fun z => z.1.at_) = some (q.1, none))) && d.mtL.all (fun q => decide ((d.defs[q.2]?).map (fun z => z.1.at_) = some (q.1.1, some q.1.2))) &&
  d.inL.all (fun q => decide ((d.defs[q.2]?).map (fun z => z.1.at_) = some (q.1, some ("__init__" : Str)))) && d.defs.all fun q => q.1.dfl.isEmpty && q.1.kwd.isEmpty
/-- how the parameters are bound -/
def Bnd (d : He.DefD) (ps : List Str) : Prop := ∀ (kV doc pm : Value) (an : Option Addr) (cdv ct : Value) (us : List Value), us.length = ps.length → PySem.bindArgs (PySem.W.fnOf d.name d.qual d.params d.body d.scope .none kV doc pm an cdv ct) ⟨us, []⟩ = pure (ps.zip us)
def Bnds : List (He.DefD × List Str × List Str) → Prop
  | [] => True
  | q :: qs => Bnd q.1 q.2.2 ∧ Bnds qs
theorem Bnds.get : ∀ {l : List (He.DefD × List Str × List Str)} {i : Nat} {q : He.DefD × List Str × List Str}, Bnds l → l[i]? = some q → Bnd q.1 q.2.2
  | [], i, q, h, e => by simp at e
  | a :: l, 0, q, h, e => by simp only [List.getElem?_cons_zero, Option.some.injEq] at e; subst e; exact h.1
  | a :: l, i + 1, q, h, e => Bnds.get (i := i) h.2 (by simpa using e)
theorem lookup_mem {α β : Type} [BEq α] [LawfulBEq α] {k : α} {v : β} : ∀ {l : List (α × β)}, l.lookup k = some v → (k, v) ∈ l
  | [], h => by cases h
  | (a, b) :: l, h => by
    rw [List.lookup_cons] at h
    cases e : k == a with
    | true =>
      rw [e] at h
      cases h
      rw [beq_iff_eq.mp e]
      exact List.mem_cons_self ..
    | false =>
      rw [e] at h
      exact List.mem_cons_of_mem _ (lookup_mem h)
section
variable {d : Desc} {K : PySem.W.Frag} {h : PySem.Heap} {mg : Str → Option Value}
theorem fact_mem {fa : List He.Fa} {fn : List He.DefD} (c : He.SaysD fa fn K) {f : He.Fa} (hf : f ∈ fa) : f.ok K = true := by
  obtain ⟨i, hi⟩ := List.getElem?_of_mem hf
  exact c.fact i hi
theorem kn_of (X : K.In h) (G : h.Ns PySem.mainGlobals mg) (c : He.SaysD d.fa (d.defs.map (·.1)) K) (ok : d.ok = true) (hb : Bnds d.defs) : ∃ fdo, Kn d.prog d.ds K mg (fun i => He.fAd K (((d.defs[i]?).map fun z => z.1.at_).getD (Str.empty, none))) fdo := by
  unfold Desc.ok at ok
  simp only [Bool.and_eq_true] at ok
  obtain ⟨⟨⟨⟨ok1, ok2⟩, ok3⟩, ok4⟩, ok5⟩ := ok
  have hfun : ∀ (i : Nat) (q : He.DefD × List Str × List Str), d.defs[i]? = some q → ∃ fd, L2.FunD K q.1.name q.1.qual q.1.params q.1.body q.1.scope [] [] (He.fAd K q.1.at_) fd := by
    intro i q hq
    have e := List.all_eq_true.mp ok5 q (List.mem_of_getElem? hq)
    simp only [Bool.and_eq_true] at e
    obtain ⟨fd, F⟩ := c.def_ i (d := q.1) (by rw [List.getElem?_map, hq]; rfl)
    have e1 : q.1.dvs K = [] := by show q.1.dfl.map _ = []; rw [List.isEmpty_iff.mp e.1]; rfl
    have e2 : q.1.kws K = [] := by show q.1.kwd.map _ = []; rw [List.isEmpty_iff.mp e.2]; rfl
    rw [e1, e2] at F
    exact ⟨fd, F⟩
  have hsk : ∀ i : Nat, ∃ fd, ∀ q : He.DefD × List Str × List Str, d.defs[i]? = some q → L2.FunD K q.1.name q.1.qual q.1.params q.1.body q.1.scope [] [] (He.fAd K q.1.at_) fd := by
    intro i
    cases hq : d.defs[i]? with
    | none => exact ⟨default, fun q h => by cases h⟩
    | some q0 =>
      obtain ⟨fd, F⟩ := hfun i q0 hq
      exact ⟨fd, fun q h => by cases h; exact F⟩
  obtain ⟨fdo, fspec⟩ := Classical.skolem.mp hsk
  have dsi : ∀ (i : Nat) (z : DefI), d.ds[i]? = some z → ∃ q : He.DefD × List Str × List Str, d.defs[i]? = some q ∧ z = ⟨q.1.name, q.1.qual, q.1.params, q.1.body, q.1.scope, q.2.1, q.2.2⟩ := by
    intro i z hz
    unfold Desc.ds at hz
    rw [List.getElem?_map] at hz
    obtain ⟨q, hq, rfl⟩ := Option.map_eq_some_iff.mp hz
    exact ⟨q, hq, rfl⟩
  have adr : ∀ (i : Nat) (q : He.DefD × List Str × List Str), d.defs[i]? = some q → (((d.defs[i]?).map fun z => z.1.at_).getD (Str.empty, none)) = q.1.at_ := by
    intro i q hq
    rw [hq]; rfl
  have lenD : d.ds.length = d.defs.length := by unfold Desc.ds; rw [List.length_map]
  have at_of : ∀ {i : Nat} {p : Str × Option Str}, (d.defs[i]?).map (fun z => z.1.at_) = some p → i < d.ds.length ∧ (((d.defs[i]?).map fun z => z.1.at_).getD (Str.empty, none)) = p := by
    intro i p hp
    rw [hp]
    refine ⟨?_, rfl⟩
    rw [lenD]
    cases hq : d.defs[i]? with
    | none => rw [hq] at hp; cases hp
    | some q => exact (List.getElem?_eq_some_iff.mp hq).1
  refine ⟨fdo, ⟨fun i z hz => ?_, fun i z hz => ?_, fun x i hx => ?_, fun c' m i hx => ?_, fun c' i hx => ?_, fun c' f C hx hm => ?_, fun x hx => ?_, fun x v hx => ?_⟩⟩
  · obtain ⟨q, hq, rfl⟩ := dsi i z hz
    show L2.FunD K _ _ _ _ _ [] [] (He.fAd K _) _
    rw [adr i q hq]
    exact fspec i q hq
  · obtain ⟨q, hq, rfl⟩ := dsi i z hz
    exact (fspec i q hq).bindsN (hb.get hq)
  · have hmem := lookup_mem (show d.fnL.lookup x = some i from hx)
    have e := of_decide_eq_true (List.all_eq_true.mp ok2 _ hmem)
    obtain ⟨h1, h2⟩ := at_of e
    refine ⟨h1, ?_⟩
    rw [h2]
    exact He.glo_ok X G (fact_mem c (by unfold Desc.fa; simp only [List.mem_append, List.mem_map]; exact .inl ⟨_, hmem, rfl⟩))
  · have hmem := lookup_mem (show d.mtL.lookup (c', m) = some i from hx)
    have e := of_decide_eq_true (List.all_eq_true.mp ok3 _ hmem)
    obtain ⟨h1, h2⟩ := at_of e
    have hin : ∀ f ∈ ([.glo c', .cls c', .meth c' m] : List He.Fa), f ∈ d.fa := by
      intro f hf
      unfold Desc.fa
      simp only [List.mem_append, List.mem_flatMap]
      exact .inr (.inr (.inr (.inr (.inl ⟨_, hmem, hf⟩))))
    refine ⟨h1, _, He.glo_ok X G (fact_mem c (hin _ (by simp))), He.cls_ok (fact_mem c (hin _ (by simp))), ?_⟩
    rw [h2]
    exact He.meth_ok (fact_mem c (hin _ (by simp)))
  · have hmem := lookup_mem (show d.inL.lookup c' = some i from hx)
    have e := of_decide_eq_true (List.all_eq_true.mp ok4 _ hmem)
    obtain ⟨h1, h2⟩ := at_of e
    have hin : ∀ f ∈ ([.glo c', .mkr c'] : List He.Fa), f ∈ d.fa := by
      intro f hf
      unfold Desc.fa
      simp only [List.mem_append, List.mem_flatMap]
      exact .inr (.inr (.inr (.inr (.inr (.inl ⟨_, hmem, hf⟩)))))
    refine ⟨h1, _, He.glo_ok X G (fact_mem c (hin _ (by simp))), ?_⟩
    rw [h2]
    exact He.mkr_ok (fact_mem c (hin _ (by simp)))
  · have hmem : (c', f) ∈ d.fldL := List.contains_iff_mem.mp (show d.fldL.contains (c', f) = true from hx)
    have hin : ∀ z ∈ ([.glo c', .cls c', .noat c' f] : List He.Fa), z ∈ d.fa := by
      intro z hz
      unfold Desc.fa
      simp only [List.mem_append, List.mem_flatMap]
      exact .inr (.inr (.inr (.inr (.inr (.inr ⟨_, hmem, hz⟩)))))
    have hg := He.glo_ok X G (fact_mem c (hin (.glo c') (by simp)))
    rw [hm] at hg
    cases hg
    exact ⟨He.cls_ok (fact_mem c (hin _ (by simp))), He.noat_ok (fact_mem c (hin _ (by simp)))⟩
  · have hmem : x ∈ d.frL := List.contains_iff_mem.mp (show d.frL.contains x = true from hx)
    exact He.free_ok X G (fact_mem c (by unfold Desc.fa; simp only [List.mem_append, List.mem_map]; exact .inr (.inl ⟨_, hmem, rfl⟩)))
  · have hx' : (match d.intL.lookup x with | some i => some (D.int i) | none => (d.strL.lookup x).map .str) = some v := hx
    cases hl : d.intL.lookup x with
    | some i =>
      rw [hl] at hx'
      cases hx'
      have hmem := lookup_mem hl
      obtain ⟨t, ht⟩ := He.int_ok X G (fact_mem c (f := .int x i) (by unfold Desc.fa; simp only [List.mem_append, List.mem_map]; exact .inr (.inr (.inl ⟨_, hmem, rfl⟩))))
      exact ⟨_, .int i, ht, ⟨t, rfl⟩, fun S => r_int i⟩
    | none =>
      rw [hl] at hx'
      obtain ⟨z, hz, rfl⟩ := Option.map_eq_some_iff.mp hx'
      have hmem := lookup_mem hz
      obtain ⟨t, ht⟩ := He.str_ok X G (fact_mem c (f := .str x z) (by unfold Desc.fa; simp only [List.mem_append, List.mem_map]; exact .inr (.inr (.inr (.inl ⟨_, hmem, rfl⟩)))))
      exact ⟨_, .str z, ht, ⟨t, rfl⟩, fun S => r_str z⟩
/-- the law's def, at the script -/
theorem law_sp {p : Prog} {k i : Nat} {N : List Str} {H : Hp} {a : Addr} {ns : List Int} {cs : List Inst} (hN : N ≠ []) (hS : SqL K H a (ns.map V.int)) (hrun : run p k i [.v (.scr ns)] [] = some (.ok (.val (.bl true)), [], cs)) :
    spF ⟨K, mg⟩ N 1 (run p k i) [.ref a] H (fun v _ => v = .bl true) fun _ _ _ => False := by
  have hlen : 1 ≤ N.length := by
    cases N with
    | nil => exact absurd rfl hN
    | cons x N => simp
  refine ⟨[.v (.scr ns)], ⟨⟨initRho N.length [.v (.scr ns)], []⟩, ⟨H, fun _ => 0, 0⟩, H⟩, _, rfl, rfl, rfl, rfl, ⟨fun _ _ h => h, ?_, rfl, fun j e hj => ?_, fun j k hk => ?_, fun n f k hk => ?_, fun n I hI => ?_, fun q q' lq => ?_⟩, hrun, fun r hr => ?_, fun x hx => by cases hx⟩
  · rw [start_length (by simpa using hlen)]
    exact (initRho_length (by simpa using hlen)).symm
  · rcases initRho_get (show (initRho N.length [Arg.v (.scr ns)])[j]? = some (.val e) from hj) with ⟨d', hx', e2⟩ | ⟨k, _, e2⟩ | e2
    · cases e2
      cases j with
      | zero =>
        cases hx'
        refine ⟨.ref a, rfl, ?_⟩
        simp only [R]
        exact ⟨a, rfl, hS⟩
      | succ j => simp at hx'
    · cases e2
    · cases e2
  · have hj := ref_slot (g := ⟨initRho N.length [.v (.scr ns)], []⟩) rfl hk
    cases j <;> simp at hj
  · cases hk
  · simp at hI
  · cases q with
    | slot j =>
      obtain ⟨k, hk⟩ := lq
      have hj := ref_slot (g := ⟨initRho N.length [.v (.scr ns)], []⟩) rfl hk
      cases j <;> simp at hj
    | fld n f => obtain ⟨k, hk⟩ := lq; cases hk
    | ins n => exact absurd (show n < 0 from lq) (Nat.not_lt_zero _)
  · cases hr
    refine ⟨rfl, fun v σ' c' st ok' _ _ rr => ?_⟩
    simpa [RR, R] using rr
/-- an exception behind a call, in some world -/
def CXW (P : PySem.Program) : L2.CXT := fun outer H s E e s' => ∃ w, L2.CX P w outer H s E e s'
theorem fn_cxw {P : PySem.Program} {w : PySem.World} {base : PySem.Heap} {k : Nat} {f : Addr} {fd : PySem.FuncData} {ps : List Str} {sp : L2.Sp} (F : L2.FnOk P w K mg base (L2.CX P w) k f fd ps sp) : L2.FnOk P w K mg base (CXW P) k f fd ps sp :=
  ⟨F.len, fun A outer s H args us vs Q E hr e0 hb r hsp => PySem.codeAny_mono (F.run A outer s H args us vs Q E hr e0 hb r hsp) fun z s' hz => by
    cases z with
    | error e => exact ⟨w, hz⟩
    | ok fl => cases fl <;> exact hz⟩
theorem cxw_no {P : PySem.Program} {H : Hp} {s : PySem.Shared} {e : Value} {s' : PySem.Shared} (h : CXW P [] H s (fun _ _ _ => False) e s') : False := by
  obtain ⟨w, _, _, _, _, _, _, _, _, _, _, _, _, z⟩ := h
  exact z
/-- what a law's end asks -/
theorem law_F {li n k : Nat} {q : He.DefD × List Str × List Str} {x : Str} {fa : Addr} {P : PySem.Program} {w : PySem.World} (ok : d.ok = true) (hb : Bnds d.defs) (hq : d.defs[li]? = some q) (hps : q.2.2 = [x]) (hN : q.2.1 ≠ []) (hfn : d.fnL.lookup ("law" : Str) = some li)
    (Y : ∃ K : PySem.W.Frag, K.In h ∧ He.SaysD d.fa (d.defs.map (·.1)) K) (G : h.Ns PySem.mainGlobals mg) (hmg : mg ("law" : Str) = some (.ref fa)) (hrun : ∀ ns : List Int, ns.length ≤ n → ∃ cs, run d.prog k li [.v (.scr ns)] [] = some (.ok (.val (.bl true)), [], cs)) :
    ∃ (K : PySem.W.Frag) (fd : PySem.FuncData) (sp : L2.Sp), K.In h ∧ (∀ (s : PySem.Shared) (u : Value), PySem.BindsTo s fd ⟨[u], []⟩ [(x, u)]) ∧
      (∀ (H : Hp) (a : Addr) (ns : List Int), ns.length ≤ n → L2.Only H → SqL K H a (ns.map V.int) → sp [.ref a] H (fun v _ => v = .bl true) fun _ _ _ => False) ∧
      ∀ base : PySem.Heap, K.In base → base.Ns PySem.mainGlobals mg → L2.FnOk P w K mg base (CXW P) k fa fd [x] sp := by
  obtain ⟨K, KX, c⟩ := Y
  obtain ⟨fdo, kn⟩ := kn_of KX G c ok hb
  have hds : d.ds[li]? = some ⟨q.1.name, q.1.qual, q.1.params, q.1.body, q.1.scope, q.2.1, q.2.2⟩ := by
    unfold Desc.ds
    rw [List.getElem?_map, hq]; rfl
  obtain ⟨_, hfa⟩ := kn.fn "law" li hfn
  rw [hmg] at hfa
  have F := kn.fun_ li _ hds
  have ok1 : okAll d.prog d.ds d.prog.fns = true := by
    unfold Desc.ok at ok
    simp only [Bool.and_eq_true] at ok
    exact ok.1.1.1.1
  refine ⟨K, fdo li, spF ⟨K, mg⟩ q.2.1 1 (run d.prog k li), KX, fun s u => ?_, fun H a ns hl _ hS => ?_, fun base _ _ => ?_⟩
  · have hb' := hb.get hq
    have := F.bindsA (ps := q.2.2) hb' s [u] (by rw [hps]; rfl)
    rw [hps] at this
    exact this
  · obtain ⟨cs, hr⟩ := hrun ns hl
    exact law_sp hN hS hr
  · have := fn_cxw (fn_ok (P := P) (w := w) (base := base) kn ok1 k li _ hds)
    cases hfa
    have e : q.2.2.length = 1 := by rw [hps]; rfl
    have t := this
    show L2.FnOk P w K mg base (CXW P) k _ (fdo li) [x] (spF ⟨K, mg⟩ q.2.1 1 (run d.prog k li))
    rw [← e, ← hps]
    exact t
end
end Iv
set_option linter.all false
set_option autoImplicit false
set_option maxRecDepth 100000
set_option maxHeartbeats 2000000
/-! Lw1: what a text of the small syntax reaches: rules to walk it. -/
namespace Iv
open PySem (Str Expr Stmt CmpOp Operator BoolOp PyData)
/-- a mark whose type names Q: simp does not walk into a Q that a later argument's type names -/
inductive Mk2 {α : Type} (Q : α → Sg → Prop) : Type where
  | mk
inductive Mk1 {α : Type} (Q : α → Prop) : Type where
  | mk
/-- m ends well, and then Q -/
def W {α : Type} (m : M α) (g : Sg) (Q : α → Sg → Prop) (_u : Mk2 Q := .mk) : Prop := match m g with
  | some (.ok a, g') => Q a g'
  | _ => False
/-- a value that must be there -/
def G {α : Type} (o : Option α) (Q : α → Prop) (_u : Mk1 Q := .mk) : Prop := match o with
  | some a => Q a
  | none => False
section
variable {α β : Type} {g : Sg} {P : Pg} {Q : α → Sg → Prop}
@[simp ↓] theorem G_some {a : α} {Q : α → Prop} : G (some a) Q = Q a := (rfl)
@[simp ↓] theorem G_none {Q : α → Prop} : G (none : Option α) Q = False := (rfl)
@[simp ↓] theorem G_map {o : Option β} {f : β → α} {Q : α → Prop} : G (o.map f) Q = G o fun b => Q (f b) := by cases o <;> rfl
@[simp ↓] theorem G_bind {o : Option β} {f : β → Option α} {Q : α → Prop} : G (o.bind f) Q = G o fun b => G (f b) Q := by cases o <;> rfl
@[simp ↓] theorem G_ite {c : Prop} [Decidable c] {o : Option α} {Q : α → Prop} : G (if c then o else none) Q = (c ∧ G o Q) := by
  by_cases h : c
  · rw [if_pos h]; simp [h]
  · rw [if_neg h]; simp [h, G]
@[simp ↓] theorem W_ret {a : α} : W (ret a) g Q = Q a g := (rfl)
@[simp ↓] theorem W_bnd {m : M β} {k : β → M α} : W (bnd m k) g Q = W m g fun a g' => W (k a) g' Q := by
  unfold W bnd
  cases m g with
  | none => rfl
  | some z =>
    obtain ⟨o, g1⟩ := z
    cases o <;> rfl
@[simp ↓] theorem W_liftO {f : Sg → Option α} : W (liftO f) g Q = G (f g) fun a => Q a g := by
  unfold W liftO G
  cases f g <;> rfl
@[simp ↓] theorem W_doS {f : Sg → Option Sg} {Q : Flow → Sg → Prop} : W (doS f) g Q = G (f g) fun g' => Q .next g' := by
  unfold W doS G
  cases f g <;> rfl
@[simp ↓] theorem W_none : W (fun _ => none : M α) g Q = False := (rfl)
theorem W_some {a : α} {g' : Sg} : W (fun _ => some (.ok a, g') : M α) g Q = Q a g' := rfl
@[simp ↓] theorem W_ite {c : Prop} [Decidable c] {m n : M α} : W (if c then m else n) g Q = if c then W m g Q else W n g Q := by
  by_cases h : c
  · rw [if_pos h, if_pos h]
  · rw [if_neg h, if_neg h]
theorem W_mono {m : M α} {Q' : α → Sg → Prop} (h : W m g Q) (i : ∀ a g', Q a g' → Q' a g') : W m g Q' := by
  unfold W at h ⊢
  split at h
  · rename_i a g' e; exact i _ _ h
  · exact h.elim
theorem W_of {m : M α} {a : α} {g' : Sg} (h : m g = some (.ok a, g')) : W m g Q = Q a g' := by unfold W; rw [h]
theorem W_inv {m : M α} (h : W m g Q) : ∃ a g', m g = some (.ok a, g') ∧ Q a g' := by
  unfold W at h
  split at h
  · rename_i a g' e; exact ⟨a, g', e, h⟩
  · exact h.elim
end
theorem W_ext {α : Type} {m : M α} {g : Sg} {Q Q' : α → Sg → Prop} (h : ∀ a g', Q a g' = Q' a g') : W m g Q = W m g Q' := by
  have e : Q = Q' := funext fun a => funext fun g' => h a g'
  subst e
  rfl
/-! ### calls -/
/-- the call ends well, and then Q -/
def Cl (call : CallF) (f : Nat) (as : List Arg) (cs : List Inst) (Q : Res → List C → List Inst → Prop) : Prop := match call f as cs with
  | some (.ok r, outs, cs') => Q r outs cs'
  | _ => False
theorem Cl_mono {call : CallF} {f : Nat} {as : List Arg} {cs : List Inst} {Q Q' : Res → List C → List Inst → Prop} (h : Cl call f as cs Q) (i : ∀ r o c, Q r o c → Q' r o c) : Cl call f as cs Q' := by
  unfold Cl at h ⊢
  split at h
  · exact i _ _ _ h
  · exact h.elim
def nb : Res → Bool
  | .brw _ => false
  | _ => true
theorem W_callM {P : Pg} {f : Nat} {as : List Ar} {g : Sg} {xs : List Arg} {Q : Res → Sg → Prop} (hx : argsOf g as = some xs) (hl : hasLent as = false) (hn : (refsOf as).Nodup)
    (h : Cl P.call f xs g.cs fun r outs cs' => nb r = true ∧ G (writeBack { g with cs := cs' } (refsOf as) outs) fun g' => Q r g') : W (callM P f as) g Q := by
  unfold Cl at h
  unfold W callM
  rw [hx]
  simp only [hl]
  rw [if_neg Bool.false_ne_true]
  cases hc : P.call f xs g.cs with
  | none => rw [hc] at h; exact h.elim
  | some z =>
    obtain ⟨o, outs, cs'⟩ := z
    rw [hc] at h
    cases o with
    | exc x => exact h.elim
    | ok r =>
      obtain ⟨h1, h2⟩ := h
      simp only
      rw [if_pos hn]
      unfold G at h2
      split at h2
      · rename_i g' e
        rw [e]
        cases r with
        | brw _ => cases h1
        | val d => exact h2
        | fresh c => exact h2
      · exact h2.elim
theorem W_callL {P : Pg} {f : Nat} {as : List Ar} {g : Sg} {xs : List Arg} {Q : Res → Sg → Prop} (hx : argsOf g as = some xs) (hl : hasLent as = true) (hf : nfArgs xs = true)
    (h : Cl P.call f xs [] fun r outs _ => outs = [] ∧ ∃ d, r = .val d ∧ flat d = true ∧ Q (.val d) g) : W (callM P f as) g Q := by
  unfold Cl at h
  unfold W callM
  rw [hx]
  simp only [hl, if_true, hf]
  cases hc : P.call f xs [] with
  | none => rw [hc] at h; exact h.elim
  | some z =>
    obtain ⟨o, outs, cs'⟩ := z
    rw [hc] at h
    cases o with
    | exc x => exact h.elim
    | ok r =>
      obtain ⟨rfl, d, rfl, hd, q⟩ := h
      simp only [hd, if_true]
      exact q
theorem Cl_fn {p : Prog} {k f : Nat} {F : Fn} {as : List Arg} {cs : List Inst} {Q : Res → List C → List Inst → Prop} (hF : p.fns[f]? = some F) (hl : as.length = F.np)
    (h : W (exs (p.pg (run p (k + 1)) (run p k)) F.body) ⟨initRho F.nn as, cs⟩ fun fl g' => G (outsOf g' 0 as) fun outs => match fl with
      | .ret r => Q r outs g'.cs
      | .next => Q (.val .non) outs g'.cs
      | _ => False) : Cl (run p (k + 2)) f as cs Q := by
  obtain ⟨fl, g', he, h2⟩ := W_inv h
  unfold Cl
  have e : run p (k + 2) f as cs = callFn (p.pg (run p (k + 1)) (run p k)) F as cs := by
    rw [run]
    simp only [hF]
  rw [e]
  unfold callFn
  rw [if_pos hl, he]
  simp only
  unfold G at h2
  split at h2
  · rename_i outs ho
    rw [ho]
    cases fl with
    | next => exact h2
    | ret r => exact h2
    | brk => exact h2.elim
    | cnt => exact h2.elim
  · exact h2.elim
/-! ### loops -/
theorem W_for {P : Pg} {tg : Tg} {it : It} {b : Ss} {g : Sg} {Q : Flow → Sg → Prop} : W (ex P (.for_ tg it b)) g Q = W (items P it) g fun p g1 => W (loopS tg (exs P b) p.1) (lock p.2 g1) fun fl g2 => Q fl (unlock p.2 g2) := by
  rw [ex, W_bnd]
  unfold W
  cases items P it g with
  | none => rfl
  | some z =>
    obtain ⟨o, g1⟩ := z
    cases o with
    | exc x => rfl
    | ok p =>
      simp only
      cases loopS tg (exs P b) p.1 (lock p.2 g1) with
      | none => rfl
      | some z =>
        obtain ⟨o, g2⟩ := z
        cases o <;> rfl
theorem loopS_cons {tg : Tg} {body : M Flow} {d : D} {ds : List D} {g g1 : Sg} (h : bindTg tg d g = some g1) : loopS tg body (d :: ds) g = bnd body (fun fl => match fl with
      | .next => loopS tg body ds
      | .cnt => loopS tg body ds
      | .brk => Iv.ret .next
      | .ret r => Iv.ret (.ret r)) g1 := by
  rw [loopS]
  simp only [h] <;> rfl
/-- a loop, by an invariant -/
theorem W_loopS {tg : Tg} {body : M Flow} {Q : Flow → Sg → Prop} (I : Nat → Sg → Prop) (ds : List D) : ∀ (i : Nat) (g : Sg), i ≤ ds.length → I i g →
    (∀ i d g, ds[i]? = some d → I i g → G (bindTg tg d g) fun g1 => W body g1 fun fl g2 => match fl with
      | .next => I (i + 1) g2
      | .cnt => I (i + 1) g2
      | .brk => Q .next g2
      | .ret r => Q (.ret r) g2) →
    (∀ g, I ds.length g → Q .next g) → W (loopS tg body (ds.drop i)) g Q := by
  intro i
  generalize hn : ds.length - i = n
  induction n generalizing i with
  | zero =>
    intro g hi h _ hd
    have e : i = ds.length := by omega
    subst e
    rw [List.drop_length]
    exact hd g h
  | succ n ih =>
    intro g hi h step hd
    have hlt : i < ds.length := by omega
    rw [List.drop_eq_getElem_cons hlt]
    have s := step i ds[i] g (List.getElem?_eq_getElem hlt) h
    unfold G at s
    split at s
    · rename_i g1 e
      unfold W
      rw [loopS_cons e]
      obtain ⟨fl, g2, e2, s2⟩ := W_inv s
      unfold bnd
      rw [e2]
      simp only
      cases fl with
      | next => exact ih (i + 1) (by omega) g2 (by omega) s2 step hd
      | cnt => exact ih (i + 1) (by omega) g2 (by omega) s2 step hd
      | brk => exact s2
      | ret r => exact s2
    · exact s.elim
theorem W_loop0 {tg : Tg} {body : M Flow} {Q : Flow → Sg → Prop} (I : Nat → Sg → Prop) {ds : List D} {g : Sg} (h : I 0 g)
    (step : ∀ i d g, ds[i]? = some d → I i g → G (bindTg tg d g) fun g1 => W body g1 fun fl g2 => match fl with
      | .next => I (i + 1) g2
      | .cnt => I (i + 1) g2
      | .brk => Q .next g2
      | .ret r => Q (.ret r) g2) (hd : ∀ g, I ds.length g → Q .next g) : W (loopS tg body ds) g Q := by
  have := W_loopS (tg := tg) (body := body) (Q := Q) I ds 0 g (Nat.zero_le _) h step hd
  rwa [List.drop_zero] at this
@[simp ↓] theorem W_nil {P : Pg} {g : Sg} {Q : Flow → Sg → Prop} : W (exs P .nil) g Q = Q .next g := by rw [exs]; rfl
@[simp ↓] theorem W_seq {P : Pg} {s : S} {ss : Ss} {g : Sg} {Q : Flow → Sg → Prop} : W (exs P (.cons s ss)) g Q = W (ex P s) g fun fl g1 => match fl with
    | .next => W (exs P ss) g1 Q
    | fl => Q fl g1 := by
  rw [exs, W_bnd]
  refine W_ext fun fl g1 => ?_
  cases fl <;> rfl
/-! ### and, or -/
section
variable {P : Pg} {a b : T} {bs : Ts} {g : Sg}
@[simp ↓] theorem W_opt1 {op : BoolOp} {Q : Bool → Sg → Prop} : W (bopt P op (.cons a .nil)) g Q = W (tst P a) g Q := by rw [bopt]
@[simp ↓] theorem W_opt_and {Q : Bool → Sg → Prop} : W (bopt P .And (.cons a (.cons b bs))) g Q = W (tst P a) g fun t g1 => if t = true then W (bopt P .And (.cons b bs)) g1 Q else Q false g1 := by
  rw [bopt, W_bnd]
  refine W_ext fun t g1 => ?_
  cases t <;> rfl
@[simp ↓] theorem W_opt_or {Q : Bool → Sg → Prop} : W (bopt P .Or (.cons a (.cons b bs))) g Q = W (tst P a) g fun t g1 => if t = true then Q true g1 else W (bopt P .Or (.cons b bs)) g1 Q := by
  rw [bopt, W_bnd]
  refine W_ext fun t g1 => ?_
  cases t <;> rfl
def keepR (x : Res) (Q : Res → Sg → Prop) (g : Sg) : Prop := nb x = true ∧ Q x g
@[simp] theorem keepR_val {d : D} {Q : Res → Sg → Prop} : keepR (.val d) Q g = Q (.val d) g := by simp [keepR, nb]
@[simp ↓] theorem W_ops1 {op : BoolOp} {Q : Res → Sg → Prop} : W (bops P op (.cons a .nil)) g Q = W (ev P a) g Q := by rw [bops]
theorem keepR_eq {x : Res} {Q : Res → Sg → Prop} : W (match x with | .brw _ => fun _ => none | x => ret x : M Res) g Q = keepR x Q g := by
  cases x <;> simp [keepR, nb, W_ret, W_none]
@[simp ↓] theorem W_ops_and {Q : Res → Sg → Prop} : W (bops P .And (.cons a (.cons b bs))) g Q = W (ev P a) g fun x g1 => W (truR x) g1 fun t g2 => if t = true then W (bops P .And (.cons b bs)) g2 Q else keepR x Q g2 := by
  rw [bops, W_bnd]
  refine W_ext fun x g1 => ?_
  rw [W_bnd]
  refine W_ext fun t g2 => ?_
  cases t
  · exact keepR_eq
  · rfl
@[simp ↓] theorem W_ops_or {Q : Res → Sg → Prop} : W (bops P .Or (.cons a (.cons b bs))) g Q = W (ev P a) g fun x g1 => W (truR x) g1 fun t g2 => if t = true then keepR x Q g2 else W (bops P .Or (.cons b bs)) g2 Q := by
  rw [bops, W_bnd]
  refine W_ext fun x g1 => ?_
  rw [W_bnd]
  refine W_ext fun t g2 => ?_
  cases t
  · rfl
  · exact keepR_eq
end
/-! ### equality -/
@[simp] theorem eqD_int {i j : Int} : eqD (.int i) (.int j) = some (decide (i = j)) := by
  unfold eqD
  simp only [toPy]
  rw [if_pos (by rfl)]
  congr 1
@[simp ↓] theorem W_mv {P : Pg} {i : Nat} {g : Sg} {Q : Res → Sg → Prop} : W (ev P (.mv i)) g Q = G (match g.rho[i]? with
    | some (.own c) => some c
    | _ => none) fun c => Q (.fresh c) { g with rho := g.rho.set i .un } := by
  unfold W G
  rw [ev]
  cases h : g.rho[i]? with
  | none => simp [h]
  | some s => cases s <;> simp [h]
@[simp] theorem isRef_un : isRef .un = false := (rfl)
@[simp] theorem isRef_val {d : D} : isRef (.val d) = false := (rfl)
@[simp] theorem isRef_own {c : C} : isRef (.own c) = false := (rfl)
/-- a method of a built-in type, at its receiver -/
theorem W_meth {P : Pg} {m : Mt} {x : Res} {rs : List D} {g : Sg} {Q : Res → Sg → Prop} : W (fun g => match methD m x rs g with
    | some (r, g') => some (.ok r, g')
    | none => none : M Res) g Q = G (methD m x rs g) fun q => Q q.1 q.2 := by
  unfold W G
  cases h : methD m x rs g <;> simp [h]
theorem G_ext {α : Type} {o : Option α} {Q Q' : α → Prop} (h : ∀ a, Q a = Q' a) : G o Q = G o Q' := by
  have e : Q = Q' := funext h
  subst e
  rfl
/-! ### one rule a construct: for simp's way down -/
section
variable {P : Pg} {g : Sg} {a b c e : T} {i : Nat} {ts : Ts} {Q : Res → Sg → Prop}
/-- what a name's slot gives -/
def nmR (s : Option Sl) (i : Nat) : Option Res := match s with
  | some (.val d) => some (.val d)
  | some s => s.cont.map fun _ => .brw (.slot i)
  | none => none
@[simp ↓] theorem Wv_nm : W (ev P (.nm i)) g Q = G (nmR g.rho[i]? i) fun r => Q r g := by
  rw [ev, W_liftO]
  congr
@[simp ↓] theorem Wv_int {j : Int} : W (ev P (.int j)) g Q = Q (.val (.int j)) g := by rw [ev]; rfl
@[simp ↓] theorem Wv_str {j : Str} : W (ev P (.str j)) g Q = Q (.val (.str j)) g := by rw [ev]; rfl
@[simp ↓] theorem Wv_bl {j : Bool} : W (ev P (.bl j)) g Q = Q (.val (.bl j)) g := by rw [ev]; rfl
@[simp ↓] theorem Wv_non : W (ev P .non) g Q = Q (.val .non) g := by rw [ev]; rfl
@[simp ↓] theorem Wv_glob {x : Str} : W (ev P (.glob x)) g Q = G (P.glob x) fun d => Q (.val d) g := by rw [ev, W_liftO, G_map]
def bin2 {α : Type} (f : D → D → Option α) (x y : Option D) : Option α := match x, y with
  | some d, some e => f d e
  | _, _ => none
@[simp ↓] theorem Wv_bin {op : Operator} : W (ev P (.bin op a b)) g Q = W (ev P a) g fun x g1 => W (ev P b) g1 fun y g2 => G (bin2 (binD op) (dview g2 x) (dview g2 y)) fun r => Q r g2 := by
  rw [ev, W_bnd]
  refine W_ext fun x g1 => ?_
  rw [W_bnd]
  refine W_ext fun y g2 => ?_
  rw [W_liftO]
  congr
@[simp ↓] theorem Wv_neg : W (ev P (.neg a)) g Q = W (ev P a) g fun x g1 => G ((dview g1 x).bind fun d => match d with | .int i => some i | _ => none) fun i => Q (.val (.int (-i))) g1 := by
  rw [ev, W_bnd]
  refine W_ext fun x g1 => ?_
  rw [W_liftO]
  cases dview g1 x with
  | none => rfl
  | some d => cases d <;> rfl
@[simp ↓] theorem Wv_cmp {op : CmpOp} : W (ev P (.cmp op a b)) g Q = W (ev P a) g fun x g1 => W (ev P b) g1 fun y g2 => G (cmpR op x y g2) fun t => Q (.val (.bl t)) g2 := by
  rw [ev, W_bnd]
  refine W_ext fun x g1 => ?_
  rw [W_bnd]
  refine W_ext fun y g2 => ?_
  rw [W_liftO, G_map]
@[simp ↓] theorem Wv_bop {op : BoolOp} : W (ev P (.bop op ts)) g Q = W (bops P op ts) g Q := by rw [ev]
@[simp ↓] theorem Wv_not : W (ev P (.not a)) g Q = W (ev P a) g fun x g1 => W (truR x) g1 fun t g2 => Q (.val (.bl (!t))) g2 := by
  rw [ev, W_bnd]
  refine W_ext fun x g1 => ?_
  rw [W_bnd]
  rfl
@[simp ↓] theorem Wv_lst : W (ev P (.lst ts)) g Q = W (evs P ts) g fun ds g1 => ds.length ≤ line ∧ Q (.fresh (.lst ds)) g1 := by
  rw [ev, W_bnd]
  refine W_ext fun x g1 => ?_
  rw [W_liftO, G_ite]
  rfl
@[simp ↓] theorem Wv_tup : W (ev P (.tup ts)) g Q = W (evs P ts) g fun ds g1 => ds.length ≤ line ∧ Q (.val (.tup ds)) g1 := by
  rw [ev, W_bnd]
  refine W_ext fun x g1 => ?_
  rw [W_liftO, G_ite]
  rfl
@[simp ↓] theorem Wv_sub : W (ev P (.sub a b)) g Q = W (ev P a) g fun x g1 => W (ev P b) g1 fun y g2 => G (bin2 subD (dview g2 x) (dview g2 y)) fun r => Q r g2 := by
  rw [ev, W_bnd]
  refine W_ext fun x g1 => ?_
  rw [W_bnd]
  refine W_ext fun y g2 => ?_
  rw [W_liftO]
  congr
@[simp ↓] theorem Wv_call {f : Nat} {dd : List D} : W (ev P (.call f ts dd)) g Q = W (args P ts) g fun xs g1 => W (callM P f (xs ++ dd.map .v)) g1 Q := by
  rw [ev, W_bnd]
@[simp ↓] theorem Wv_meth {m : Mt} : W (ev P (.meth m a ts)) g Q = W (ev P a) g fun x g1 => W (chkM m x) g1 fun _ g2 => W (evs P ts) g2 fun rs g3 => G (methD m x rs g3) fun q => Q q.1 q.2 := by
  rw [ev, W_bnd]
  refine W_ext fun x g1 => ?_
  rw [W_bnd]
  refine W_ext fun _ g2 => ?_
  rw [W_bnd]
  refine W_ext fun rs g3 => ?_
  exact W_meth (P := P)
@[simp ↓] theorem Wv_attr {f : Str} : W (ev P (.attr a f)) g Q = W (ev P a) g fun x g1 => G (match x with | .val d => attrD P d f g1 | _ => none) fun r => Q r g1 := by
  rw [ev, W_bnd]
  refine W_ext fun x g1 => ?_
  rw [W_liftO] <;> rfl
@[simp ↓] theorem Wv_dict0 {k : Bool} : W (ev P (.dict0 k)) g Q = Q (.fresh (if k then .dT [] else .dK [])) g := by rw [ev]; rfl
@[simp ↓] theorem Wvs_nil {Q : List D → Sg → Prop} : W (evs P .nil) g Q = Q [] g := by rw [evs]; rfl
theorem W_take {m : M Res} {Q : D → Sg → Prop} : W (takeM m) g Q = W m g fun r g1 => G r.take fun d => Q d g1 := by
  unfold takeM
  rw [W_bnd]
  refine W_ext fun x g1 => ?_
  rw [W_liftO]
@[simp ↓] theorem Wvs_cons {Q : List D → Sg → Prop} : W (evs P (.cons a ts)) g Q = W (ev P a) g fun r g1 => G r.take fun d => W (evs P ts) g1 fun ds g2 => Q (d :: ds) g2 := by
  rw [evs, W_bnd, W_take]
  refine W_ext fun x g1 => ?_
  refine G_ext fun d => ?_
  rw [W_bnd]
  rfl
/-- a one-place built-in function on a result -/
def b1R (f : B1) (x : Res) (g : Sg) : Option Res := match f, cview g x with
  | .list, some (.dT kvs) => some (.fresh (.lst (kvs.map fun p => .tup (p.1.map kD))))
  | f, _ => match dview g x with
    | some d => b1D f d
    | none => none
@[simp ↓] theorem Wv_b1 {f : B1} : W (ev P (.b1 f a)) g Q = W (ev P a) g fun x g1 => G (b1R f x g1) fun r => Q r g1 := by
  rw [ev, W_bnd]
  refine W_ext fun x g1 => ?_
  rw [W_liftO]
  rfl
@[simp ↓] theorem Wv_b2 {f : B2} : W (ev P (.b2 f a b)) g Q = W (ev P a) g fun x g1 => W (ev P b) g1 fun y g2 => G (bin2 (b2D f) (dview g2 x) (dview g2 y)) fun r => Q r g2 := by
  rw [ev, W_bnd]
  refine W_ext fun x g1 => ?_
  rw [W_bnd]
  refine W_ext fun y g2 => ?_
  rw [W_liftO]
  congr
@[simp ↓] theorem Wv_isi {t : Ty} : W (ev P (.isi a [t])) g Q = W (ev P a) g fun x g1 => G ((dview g1 x).bind fun d => isTy d t) fun r => Q (.val (.bl r)) g1 := by
  rw [ev, W_bnd]
  refine W_ext fun x g1 => ?_
  rw [W_liftO]
  cases dview g1 x with
  | none => rfl
  | some d =>
    simp only [List.foldr, Option.bind_some]
    cases isTy d t with
    | none => rfl
    | some r => simp [G]
@[simp ↓] theorem Wv_ite : W (ev P (.ite c a b)) g Q = W (tst P c) g fun t g1 => if t = true then W (ev P a) g1 Q else W (ev P b) g1 Q := by
  rw [ev, W_bnd]
  refine W_ext fun t g1 => ?_
  exact W_ite
@[simp ↓] theorem Wv_omet {cn m : Str} {dd : List D} : W (ev P (.omet cn a m ts dd)) g Q = W (ev P a) g fun x g1 => W (chkI cn m x) g1 fun n g2 => W (args P ts) g2 fun xs g3 => match P.meth cn m with
    | some f => W (callM P f (.v (.cell n) :: (xs ++ dd.map .v))) g3 Q
    | none => False := by
  rw [ev, W_bnd]
  refine W_ext fun x g1 => ?_
  rw [W_bnd]
  refine W_ext fun n g2 => ?_
  rw [W_bnd]
  refine W_ext fun xs g3 => ?_
  cases P.meth cn m <;> rfl
@[simp ↓] theorem Wt_cmp {op : CmpOp} {Q : Bool → Sg → Prop} : W (tst P (.cmp op a b)) g Q = W (ev P a) g fun x g1 => W (ev P b) g1 fun y g2 => G (cmpR op x y g2) fun t => Q t g2 := by
  rw [tst, W_bnd]
  refine W_ext fun x g1 => ?_
  rw [W_bnd]
  refine W_ext fun y g2 => ?_
  rw [W_liftO]
@[simp ↓] theorem Wt_bop {op : BoolOp} {Q : Bool → Sg → Prop} : W (tst P (.bop op ts)) g Q = W (bopt P op ts) g Q := by rw [tst]
@[simp ↓] theorem Wt_not {Q : Bool → Sg → Prop} : W (tst P (.not a)) g Q = W (tst P a) g fun t g1 => Q (!t) g1 := by
  rw [tst, W_bnd]
  rfl
@[simp ↓] theorem Wa_nil {Q : List Ar → Sg → Prop} : W (args P .nil) g Q = Q [] g := by rw [args]; rfl
@[simp ↓] theorem Wa_rf {Q : List Ar → Sg → Prop} : W (args P (.cons (.rf i) ts)) g Q = W (chkC i) g fun _ g1 => W (args P ts) g1 fun xs g2 => Q (.r i :: xs) g2 := by
  rw [args, W_bnd]
  refine W_ext fun x g1 => ?_
  rw [W_bnd]
  rfl
@[simp ↓] theorem Wa_ln {Q : List Ar → Sg → Prop} : W (args P (.cons (.ln i) ts)) g Q = W (chkC i) g fun _ g1 => W (args P ts) g1 fun xs g2 => Q (.l i :: xs) g2 := by
  rw [args, W_bnd]
  refine W_ext fun x g1 => ?_
  rw [W_bnd]
  rfl
end
section
variable {P : Pg} {g : Sg} {a b c e t : T} {i : Nat} {Q : Flow → Sg → Prop}
@[simp ↓] theorem Wx_asg {tg : Tg} {fr : Bool} : W (ex P (.asg tg fr t)) g Q = W (ev P t) g fun r g1 => G (put tg fr r g1) fun g2 => Q .next g2 := by
  rw [ex, W_bnd]
  refine W_ext fun r g1 => ?_
  rw [W_doS]
@[simp ↓] theorem Wx_setSub : W (ex P (.setSub a b t)) g Q = W (ev P t) g fun r g1 => G r.take fun d => W (ev P a) g1 fun x g2 => W (ev P b) g2 fun k g3 => G k.take fun k => G (setSubD x k d g3) fun g4 => Q .next g4 := by
  rw [ex, W_bnd, W_take]
  refine W_ext fun r g1 => ?_
  refine G_ext fun d => ?_
  rw [W_bnd]
  refine W_ext fun x g2 => ?_
  rw [W_bnd, W_take]
  refine W_ext fun k g3 => ?_
  refine G_ext fun k => ?_
  rw [W_doS]
@[simp ↓] theorem Wx_expr : W (ex P (.expr t)) g Q = W (ev P t) g fun _ g1 => Q .next g1 := by
  rw [ex, W_bnd]
  rfl
@[simp ↓] theorem Wx_ite {x y : Ss} : W (ex P (.ite c x y)) g Q = W (tst P c) g fun t g1 => if t = true then W (exs P x) g1 Q else W (exs P y) g1 Q := by
  rw [ex, W_bnd]
  refine W_ext fun t g1 => ?_
  exact W_ite
@[simp ↓] theorem Wx_ret : W (ex P (.ret t)) g Q = W (ev P t) g fun r g1 => nb r = true ∧ Q (.ret r) g1 := by
  rw [ex, W_bnd]
  refine W_ext fun r g1 => ?_
  cases r <;> simp [nb, W_ret, W_none]
@[simp ↓] theorem Wx_retN : W (ex P .retN) g Q = Q (.ret (.val .non)) g := by rw [ex]; rfl
@[simp ↓] theorem Wx_brk : W (ex P .brk) g Q = Q .brk g := by rw [ex]; rfl
@[simp ↓] theorem Wx_cnt : W (ex P .cnt) g Q = Q .cnt g := by rw [ex]; rfl
@[simp ↓] theorem Wx_pass : W (ex P .pass) g Q = Q .next g := by rw [ex]; rfl
end
/-! ### list comprehensions -/
/-- one turn -/
def turnC (P : Pg) (tg : Tg) (cnd : Ts) (e : T) (d : D) : M (Option D) := noex fun g => match bindTg tg d g with
  | none => none
  | some g' => bnd (conds P cnd) (fun b => if b then bnd (takeM (ev P e)) (fun y => fun g2 => some (.ok (some y), { g2 with rho := wipeS g2.rho tg.slots })) else fun g2 => some (.ok none, { g2 with rho := wipeS g2.rho tg.slots })) g'
section
variable {P : Pg} {tg : Tg} {it : It} {cnd : Ts} {e : T} {g : Sg}
theorem W_noex {α : Type} {m : M α} {Q : α → Sg → Prop} : W (noex m) g Q = W m g Q := by
  unfold W noex
  cases m g with
  | none => rfl
  | some z =>
    obtain ⟨o, g1⟩ := z
    cases o <;> rfl
theorem W_fun {α : Type} {m : M α} {f : Sg → M α} {Q : α → Sg → Prop} (h : m g = f g g) : W m g Q = W (f g) g Q := by
  unfold W
  rw [h]
theorem W_turn {d : D} {Q : Option D → Sg → Prop} : W (turnC P tg cnd e d) g Q = G (bindTg tg d g) fun g1 => W (conds P cnd) g1 fun b g2 => if b = true then W (ev P e) g2 fun r g3 => G r.take fun y => Q (some y) { g3 with rho := wipeS g3.rho tg.slots } else Q none { g2 with rho := wipeS g2.rho tg.slots } := by
  unfold turnC
  rw [W_noex]
  cases hb : bindTg tg d g with
  | none => unfold W G; simp [hb]
  | some g1 =>
    rw [G_some]
    have e1 : W (fun g => match bindTg tg d g with
      | none => none
      | some g' => bnd (conds P cnd) (fun b => if b then bnd (takeM (ev P e)) (fun y => fun g2 => some (.ok (some y), { g2 with rho := wipeS g2.rho tg.slots })) else fun g2 => some (.ok none, { g2 with rho := wipeS g2.rho tg.slots })) g' : M (Option D)) g Q = W (bnd (conds P cnd) (fun b => if b then bnd (takeM (ev P e)) (fun y => fun g2 => some (.ok (some y), { g2 with rho := wipeS g2.rho tg.slots })) else fun g2 => some (.ok none, { g2 with rho := wipeS g2.rho tg.slots }))) g1 Q := by
      unfold W
      simp only [hb]
    rw [e1, W_bnd]
    refine W_ext fun b g2 => ?_
    cases b with
    | false => rfl
    | true =>
      rw [if_pos rfl, if_pos rfl, W_bnd, W_take]
      rfl
@[simp ↓] theorem Wv_lc {Q : Res → Sg → Prop} : W (ev P (.lc tg it cnd e)) g Q = W (items P it) g fun p g1 => (tg.slots.all (fun i => (cont g1 (.slot i)).isNone) = true) ∧ W (loopC (turnC P tg cnd e) [] p.1) { (lock p.2 g1) with rho := wipeS (lock p.2 g1).rho tg.slots } fun ds g2 => Q (.fresh (.lst ds)) (unlock p.2 { g2 with rho := backS (lock p.2 g1).rho g2.rho tg.slots }) := by
  have e1 : ev P (.lc tg it cnd e) = bnd (items P it) fun (p : List D × Option Nat) => fun g =>
      if tg.slots.all (fun i => (cont g (.slot i)).isNone) then
        match loopC (turnC P tg cnd e) [] p.1 { (lock p.2 g) with rho := wipeS (lock p.2 g).rho tg.slots } with
        | some (.ok ds, g') => some (.ok (.fresh (.lst ds)), unlock p.2 { g' with rho := backS (lock p.2 g).rho g'.rho tg.slots })
        | _ => none
      else none := by rw [ev]; rfl
  rw [e1, W_bnd]
  refine W_ext fun p g1 => ?_
  unfold W
  simp only
  by_cases h : tg.slots.all (fun i => (cont g1 (.slot i)).isNone) = true
  · rw [if_pos h]
    simp only [h, true_and]
    cases loopC (turnC P tg cnd e) [] p.1 { (lock p.2 g1) with rho := wipeS (lock p.2 g1).rho tg.slots } with
    | none => rfl
    | some z =>
      obtain ⟨o, g2⟩ := z
      cases o <;> rfl
  · rw [if_neg h]
    simp [h]
/-- a comprehension's loop, by an invariant of the turn, what is gathered, the state -/
theorem W_loopC {f : D → M (Option D)} {Q : List D → Sg → Prop} (I : Nat → List D → Sg → Prop) (ds : List D) : ∀ (i : Nat) (acc : List D) (g : Sg), i ≤ ds.length → I i acc g →
    (∀ i d acc g, ds[i]? = some d → I i acc g → W (f d) g fun r g1 => match r with
      | some y => acc.length < line ∧ I (i + 1) (acc ++ [y]) g1
      | none => I (i + 1) acc g1) →
    (∀ acc g, I ds.length acc g → Q acc g) → W (loopC f acc (ds.drop i)) g Q := by
  intro i
  generalize hn : ds.length - i = n
  induction n generalizing i with
  | zero =>
    intro acc g hi h _ hd
    have e : i = ds.length := by omega
    subst e
    rw [List.drop_length]
    exact hd acc g h
  | succ n ih =>
    intro acc g hi h step hd
    have hlt : i < ds.length := by omega
    rw [List.drop_eq_getElem_cons hlt, loopC, W_bnd]
    refine W_mono (step i ds[i] acc g (List.getElem?_eq_getElem hlt) h) fun r g1 hr => ?_
    cases r with
    | none => exact ih (i + 1) (by omega) acc g1 (by omega) hr step hd
    | some y =>
      simp only
      rw [if_pos hr.1]
      exact ih (i + 1) (by omega) (acc ++ [y]) g1 (by omega) hr.2 step hd
end
end Iv
set_option linter.all false
set_option autoImplicit false
set_option maxRecDepth 100000
set_option maxHeartbeats 2000000
/-! Lx1: more rules, all for simp. -/
namespace Iv
open PySem (Str Expr Stmt CmpOp Operator BoolOp PyData)
theorem Wa_cons {P : Pg} {t : T} {ts : Ts} {g : Sg} {Q : List Ar → Sg → Prop} (h : args P (.cons t ts) = bnd (takeM (ev P t)) fun r => bnd (args P ts) fun xs => ret (.v r :: xs)) : W (args P (.cons t ts)) g Q = W (ev P t) g fun r g1 => G r.take fun d => W (args P ts) g1 fun xs g2 => Q (.v d :: xs) g2 := by
  rw [h, W_bnd, W_take]
  refine W_ext fun r g1 => ?_
  refine G_ext fun d => ?_
  rw [W_bnd]
  rfl
/-- a bound -/
def intR : Option D → Option Int
  | some (.int i) => some i
  | _ => none
@[simp] theorem intR_int {i : Int} : intR (some (.int i)) = some i := (rfl)
theorem Wb_of {P : Pg} {t : T} {g : Sg} {Q : Option Int → Sg → Prop} (h : bound P t = bnd (ev P t) fun r => liftO fun g => match dview g r with
    | some (.int i) => some (some i)
    | _ => none) : W (bound P t) g Q = W (ev P t) g fun r g1 => G (intR (dview g1 r)) fun i => Q (some i) g1 := by
  rw [h, W_bnd]
  refine W_ext fun r g1 => ?_
  rw [W_liftO]
  unfold intR
  cases dview g1 r with
  | none => rfl
  | some d => cases d <;> rfl
section
variable {P : Pg} {g : Sg} {ts : Ts}
@[simp ↓] theorem Wa_nm {i_ : Nat} {Q : List Ar → Sg → Prop} : W (args P (.cons (.nm i_) ts)) g Q = W (ev P (.nm i_)) g fun r g1 => G r.take fun d => W (args P ts) g1 fun xs g2 => Q (.v d :: xs) g2 := Wa_cons (by rw [args] <;> nofun)
@[simp ↓] theorem Wa_mv {i_ : Nat} {Q : List Ar → Sg → Prop} : W (args P (.cons (.mv i_) ts)) g Q = W (ev P (.mv i_)) g fun r g1 => G r.take fun d => W (args P ts) g1 fun xs g2 => Q (.v d :: xs) g2 := Wa_cons (by rw [args] <;> nofun)
@[simp ↓] theorem Wa_int {i_ : Int} {Q : List Ar → Sg → Prop} : W (args P (.cons (.int i_) ts)) g Q = W (ev P (.int i_)) g fun r g1 => G r.take fun d => W (args P ts) g1 fun xs g2 => Q (.v d :: xs) g2 := Wa_cons (by rw [args] <;> nofun)
@[simp ↓] theorem Wa_str {x_ : Str} {Q : List Ar → Sg → Prop} : W (args P (.cons (.str x_) ts)) g Q = W (ev P (.str x_)) g fun r g1 => G r.take fun d => W (args P ts) g1 fun xs g2 => Q (.v d :: xs) g2 := Wa_cons (by rw [args] <;> nofun)
@[simp ↓] theorem Wa_bl {b_ : Bool} {Q : List Ar → Sg → Prop} : W (args P (.cons (.bl b_) ts)) g Q = W (ev P (.bl b_)) g fun r g1 => G r.take fun d => W (args P ts) g1 fun xs g2 => Q (.v d :: xs) g2 := Wa_cons (by rw [args] <;> nofun)
@[simp ↓] theorem Wa_non  {Q : List Ar → Sg → Prop} : W (args P (.cons .non ts)) g Q = W (ev P .non) g fun r g1 => G r.take fun d => W (args P ts) g1 fun xs g2 => Q (.v d :: xs) g2 := Wa_cons (by rw [args] <;> nofun)
@[simp ↓] theorem Wa_glob {x_ : Str} {Q : List Ar → Sg → Prop} : W (args P (.cons (.glob x_) ts)) g Q = W (ev P (.glob x_)) g fun r g1 => G r.take fun d => W (args P ts) g1 fun xs g2 => Q (.v d :: xs) g2 := Wa_cons (by rw [args] <;> nofun)
@[simp ↓] theorem Wa_bin {op_ : Operator} {a_ : T} {b_ : T} {Q : List Ar → Sg → Prop} : W (args P (.cons (.bin op_ a_ b_) ts)) g Q = W (ev P (.bin op_ a_ b_)) g fun r g1 => G r.take fun d => W (args P ts) g1 fun xs g2 => Q (.v d :: xs) g2 := Wa_cons (by rw [args] <;> nofun)
@[simp ↓] theorem Wa_neg {a_ : T} {Q : List Ar → Sg → Prop} : W (args P (.cons (.neg a_) ts)) g Q = W (ev P (.neg a_)) g fun r g1 => G r.take fun d => W (args P ts) g1 fun xs g2 => Q (.v d :: xs) g2 := Wa_cons (by rw [args] <;> nofun)
@[simp ↓] theorem Wa_chain {o1_ : CmpOp} {o2_ : CmpOp} {a_ : T} {b_ : T} {c_ : T} {Q : List Ar → Sg → Prop} : W (args P (.cons (.chain o1_ o2_ a_ b_ c_) ts)) g Q = W (ev P (.chain o1_ o2_ a_ b_ c_)) g fun r g1 => G r.take fun d => W (args P ts) g1 fun xs g2 => Q (.v d :: xs) g2 := Wa_cons (by rw [args] <;> nofun)
@[simp ↓] theorem Wa_cmp {op_ : CmpOp} {a_ : T} {b_ : T} {Q : List Ar → Sg → Prop} : W (args P (.cons (.cmp op_ a_ b_) ts)) g Q = W (ev P (.cmp op_ a_ b_)) g fun r g1 => G r.take fun d => W (args P ts) g1 fun xs g2 => Q (.v d :: xs) g2 := Wa_cons (by rw [args] <;> nofun)
@[simp ↓] theorem Wa_bop {op_ : BoolOp} {es_ : Ts} {Q : List Ar → Sg → Prop} : W (args P (.cons (.bop op_ es_) ts)) g Q = W (ev P (.bop op_ es_)) g fun r g1 => G r.take fun d => W (args P ts) g1 fun xs g2 => Q (.v d :: xs) g2 := Wa_cons (by rw [args] <;> nofun)
@[simp ↓] theorem Wa_not {a_ : T} {Q : List Ar → Sg → Prop} : W (args P (.cons (.not a_) ts)) g Q = W (ev P (.not a_)) g fun r g1 => G r.take fun d => W (args P ts) g1 fun xs g2 => Q (.v d :: xs) g2 := Wa_cons (by rw [args] <;> nofun)
@[simp ↓] theorem Wa_ite {c_ : T} {a_ : T} {b_ : T} {Q : List Ar → Sg → Prop} : W (args P (.cons (.ite c_ a_ b_) ts)) g Q = W (ev P (.ite c_ a_ b_)) g fun r g1 => G r.take fun d => W (args P ts) g1 fun xs g2 => Q (.v d :: xs) g2 := Wa_cons (by rw [args] <;> nofun)
@[simp ↓] theorem Wa_lst {es_ : Ts} {Q : List Ar → Sg → Prop} : W (args P (.cons (.lst es_) ts)) g Q = W (ev P (.lst es_)) g fun r g1 => G r.take fun d => W (args P ts) g1 fun xs g2 => Q (.v d :: xs) g2 := Wa_cons (by rw [args] <;> nofun)
@[simp ↓] theorem Wa_tup {es_ : Ts} {Q : List Ar → Sg → Prop} : W (args P (.cons (.tup es_) ts)) g Q = W (ev P (.tup es_)) g fun r g1 => G r.take fun d => W (args P ts) g1 fun xs g2 => Q (.v d :: xs) g2 := Wa_cons (by rw [args] <;> nofun)
@[simp ↓] theorem Wa_sub {a_ : T} {i_ : T} {Q : List Ar → Sg → Prop} : W (args P (.cons (.sub a_ i_) ts)) g Q = W (ev P (.sub a_ i_)) g fun r g1 => G r.take fun d => W (args P ts) g1 fun xs g2 => Q (.v d :: xs) g2 := Wa_cons (by rw [args] <;> nofun)
@[simp ↓] theorem Wa_slc {a_ : T} {lo_ : T} {hi_ : T} {Q : List Ar → Sg → Prop} : W (args P (.cons (.slc a_ lo_ hi_) ts)) g Q = W (ev P (.slc a_ lo_ hi_)) g fun r g1 => G r.take fun d => W (args P ts) g1 fun xs g2 => Q (.v d :: xs) g2 := Wa_cons (by rw [args] <;> nofun)
@[simp ↓] theorem Wa_b1 {f_ : B1} {a_ : T} {Q : List Ar → Sg → Prop} : W (args P (.cons (.b1 f_ a_) ts)) g Q = W (ev P (.b1 f_ a_)) g fun r g1 => G r.take fun d => W (args P ts) g1 fun xs g2 => Q (.v d :: xs) g2 := Wa_cons (by rw [args] <;> nofun)
@[simp ↓] theorem Wa_b2 {f_ : B2} {a_ : T} {b_ : T} {Q : List Ar → Sg → Prop} : W (args P (.cons (.b2 f_ a_ b_) ts)) g Q = W (ev P (.b2 f_ a_ b_)) g fun r g1 => G r.take fun d => W (args P ts) g1 fun xs g2 => Q (.v d :: xs) g2 := Wa_cons (by rw [args] <;> nofun)
@[simp ↓] theorem Wa_isi {a_ : T} {tys_ : (List Ty)} {Q : List Ar → Sg → Prop} : W (args P (.cons (.isi a_ tys_) ts)) g Q = W (ev P (.isi a_ tys_)) g fun r g1 => G r.take fun d => W (args P ts) g1 fun xs g2 => Q (.v d :: xs) g2 := Wa_cons (by rw [args] <;> nofun)
@[simp ↓] theorem Wa_call {f_ : Nat} {as_ : Ts} {dd_ : (List D)} {Q : List Ar → Sg → Prop} : W (args P (.cons (.call f_ as_ dd_) ts)) g Q = W (ev P (.call f_ as_ dd_)) g fun r g1 => G r.take fun d => W (args P ts) g1 fun xs g2 => Q (.v d :: xs) g2 := Wa_cons (by rw [args] <;> nofun)
@[simp ↓] theorem Wa_meth {m_ : Mt} {o_ : T} {as_ : Ts} {Q : List Ar → Sg → Prop} : W (args P (.cons (.meth m_ o_ as_) ts)) g Q = W (ev P (.meth m_ o_ as_)) g fun r g1 => G r.take fun d => W (args P ts) g1 fun xs g2 => Q (.v d :: xs) g2 := Wa_cons (by rw [args] <;> nofun)
@[simp ↓] theorem Wa_omet {c_ : Str} {o_ : T} {m_ : Str} {as_ : Ts} {dd_ : (List D)} {Q : List Ar → Sg → Prop} : W (args P (.cons (.omet c_ o_ m_ as_ dd_) ts)) g Q = W (ev P (.omet c_ o_ m_ as_ dd_)) g fun r g1 => G r.take fun d => W (args P ts) g1 fun xs g2 => Q (.v d :: xs) g2 := Wa_cons (by rw [args] <;> nofun)
@[simp ↓] theorem Wa_ocon {c_ : Str} {x_ : T} {o_ : T} {Q : List Ar → Sg → Prop} : W (args P (.cons (.ocon c_ x_ o_) ts)) g Q = W (ev P (.ocon c_ x_ o_)) g fun r g1 => G r.take fun d => W (args P ts) g1 fun xs g2 => Q (.v d :: xs) g2 := Wa_cons (by rw [args] <;> nofun)
@[simp ↓] theorem Wa_mk {c_ : Str} {as_ : Ts} {dd_ : (List D)} {Q : List Ar → Sg → Prop} : W (args P (.cons (.mk c_ as_ dd_) ts)) g Q = W (ev P (.mk c_ as_ dd_)) g fun r g1 => G r.take fun d => W (args P ts) g1 fun xs g2 => Q (.v d :: xs) g2 := Wa_cons (by rw [args] <;> nofun)
@[simp ↓] theorem Wa_attr {o_ : T} {f_ : Str} {Q : List Ar → Sg → Prop} : W (args P (.cons (.attr o_ f_) ts)) g Q = W (ev P (.attr o_ f_)) g fun r g1 => G r.take fun d => W (args P ts) g1 fun xs g2 => Q (.v d :: xs) g2 := Wa_cons (by rw [args] <;> nofun)
@[simp ↓] theorem Wa_dict0 {tk_ : Bool} {Q : List Ar → Sg → Prop} : W (args P (.cons (.dict0 tk_) ts)) g Q = W (ev P (.dict0 tk_)) g fun r g1 => G r.take fun d => W (args P ts) g1 fun xs g2 => Q (.v d :: xs) g2 := Wa_cons (by rw [args] <;> nofun)
@[simp ↓] theorem Wa_lc {tg_ : Tg} {it_ : It} {cnd_ : Ts} {e_ : T} {Q : List Ar → Sg → Prop} : W (args P (.cons (.lc tg_ it_ cnd_ e_) ts)) g Q = W (ev P (.lc tg_ it_ cnd_ e_)) g fun r g1 => G r.take fun d => W (args P ts) g1 fun xs g2 => Q (.v d :: xs) g2 := Wa_cons (by rw [args] <;> nofun)
@[simp ↓] theorem Wt_nm {i_ : Nat} {Q : Bool → Sg → Prop} : W (tst P (.nm i_)) g Q = W (ev P (.nm i_)) g fun r g1 => W (truR r) g1 Q := by rw [tst, W_bnd] <;> nofun
@[simp ↓] theorem Wt_mv {i_ : Nat} {Q : Bool → Sg → Prop} : W (tst P (.mv i_)) g Q = W (ev P (.mv i_)) g fun r g1 => W (truR r) g1 Q := by rw [tst, W_bnd] <;> nofun
@[simp ↓] theorem Wt_int {i_ : Int} {Q : Bool → Sg → Prop} : W (tst P (.int i_)) g Q = W (ev P (.int i_)) g fun r g1 => W (truR r) g1 Q := by rw [tst, W_bnd] <;> nofun
@[simp ↓] theorem Wt_str {x_ : Str} {Q : Bool → Sg → Prop} : W (tst P (.str x_)) g Q = W (ev P (.str x_)) g fun r g1 => W (truR r) g1 Q := by rw [tst, W_bnd] <;> nofun
@[simp ↓] theorem Wt_bl {b_ : Bool} {Q : Bool → Sg → Prop} : W (tst P (.bl b_)) g Q = W (ev P (.bl b_)) g fun r g1 => W (truR r) g1 Q := by rw [tst, W_bnd] <;> nofun
@[simp ↓] theorem Wt_non  {Q : Bool → Sg → Prop} : W (tst P .non) g Q = W (ev P .non) g fun r g1 => W (truR r) g1 Q := by rw [tst, W_bnd] <;> nofun
@[simp ↓] theorem Wt_glob {x_ : Str} {Q : Bool → Sg → Prop} : W (tst P (.glob x_)) g Q = W (ev P (.glob x_)) g fun r g1 => W (truR r) g1 Q := by rw [tst, W_bnd] <;> nofun
@[simp ↓] theorem Wt_bin {op_ : Operator} {a_ : T} {b_ : T} {Q : Bool → Sg → Prop} : W (tst P (.bin op_ a_ b_)) g Q = W (ev P (.bin op_ a_ b_)) g fun r g1 => W (truR r) g1 Q := by rw [tst, W_bnd] <;> nofun
@[simp ↓] theorem Wt_neg {a_ : T} {Q : Bool → Sg → Prop} : W (tst P (.neg a_)) g Q = W (ev P (.neg a_)) g fun r g1 => W (truR r) g1 Q := by rw [tst, W_bnd] <;> nofun
@[simp ↓] theorem Wt_chain {o1_ : CmpOp} {o2_ : CmpOp} {a_ : T} {b_ : T} {c_ : T} {Q : Bool → Sg → Prop} : W (tst P (.chain o1_ o2_ a_ b_ c_)) g Q = W (ev P (.chain o1_ o2_ a_ b_ c_)) g fun r g1 => W (truR r) g1 Q := by rw [tst, W_bnd] <;> nofun
@[simp ↓] theorem Wt_ite {c_ : T} {a_ : T} {b_ : T} {Q : Bool → Sg → Prop} : W (tst P (.ite c_ a_ b_)) g Q = W (ev P (.ite c_ a_ b_)) g fun r g1 => W (truR r) g1 Q := by rw [tst, W_bnd] <;> nofun
@[simp ↓] theorem Wt_lst {es_ : Ts} {Q : Bool → Sg → Prop} : W (tst P (.lst es_)) g Q = W (ev P (.lst es_)) g fun r g1 => W (truR r) g1 Q := by rw [tst, W_bnd] <;> nofun
@[simp ↓] theorem Wt_tup {es_ : Ts} {Q : Bool → Sg → Prop} : W (tst P (.tup es_)) g Q = W (ev P (.tup es_)) g fun r g1 => W (truR r) g1 Q := by rw [tst, W_bnd] <;> nofun
@[simp ↓] theorem Wt_sub {a_ : T} {i_ : T} {Q : Bool → Sg → Prop} : W (tst P (.sub a_ i_)) g Q = W (ev P (.sub a_ i_)) g fun r g1 => W (truR r) g1 Q := by rw [tst, W_bnd] <;> nofun
@[simp ↓] theorem Wt_slc {a_ : T} {lo_ : T} {hi_ : T} {Q : Bool → Sg → Prop} : W (tst P (.slc a_ lo_ hi_)) g Q = W (ev P (.slc a_ lo_ hi_)) g fun r g1 => W (truR r) g1 Q := by rw [tst, W_bnd] <;> nofun
@[simp ↓] theorem Wt_b1 {f_ : B1} {a_ : T} {Q : Bool → Sg → Prop} : W (tst P (.b1 f_ a_)) g Q = W (ev P (.b1 f_ a_)) g fun r g1 => W (truR r) g1 Q := by rw [tst, W_bnd] <;> nofun
@[simp ↓] theorem Wt_b2 {f_ : B2} {a_ : T} {b_ : T} {Q : Bool → Sg → Prop} : W (tst P (.b2 f_ a_ b_)) g Q = W (ev P (.b2 f_ a_ b_)) g fun r g1 => W (truR r) g1 Q := by rw [tst, W_bnd] <;> nofun
@[simp ↓] theorem Wt_isi {a_ : T} {tys_ : (List Ty)} {Q : Bool → Sg → Prop} : W (tst P (.isi a_ tys_)) g Q = W (ev P (.isi a_ tys_)) g fun r g1 => W (truR r) g1 Q := by rw [tst, W_bnd] <;> nofun
@[simp ↓] theorem Wt_call {f_ : Nat} {as_ : Ts} {dd_ : (List D)} {Q : Bool → Sg → Prop} : W (tst P (.call f_ as_ dd_)) g Q = W (ev P (.call f_ as_ dd_)) g fun r g1 => W (truR r) g1 Q := by rw [tst, W_bnd] <;> nofun
@[simp ↓] theorem Wt_meth {m_ : Mt} {o_ : T} {as_ : Ts} {Q : Bool → Sg → Prop} : W (tst P (.meth m_ o_ as_)) g Q = W (ev P (.meth m_ o_ as_)) g fun r g1 => W (truR r) g1 Q := by rw [tst, W_bnd] <;> nofun
@[simp ↓] theorem Wt_omet {c_ : Str} {o_ : T} {m_ : Str} {as_ : Ts} {dd_ : (List D)} {Q : Bool → Sg → Prop} : W (tst P (.omet c_ o_ m_ as_ dd_)) g Q = W (ev P (.omet c_ o_ m_ as_ dd_)) g fun r g1 => W (truR r) g1 Q := by rw [tst, W_bnd] <;> nofun
@[simp ↓] theorem Wt_ocon {c_ : Str} {x_ : T} {o_ : T} {Q : Bool → Sg → Prop} : W (tst P (.ocon c_ x_ o_)) g Q = W (ev P (.ocon c_ x_ o_)) g fun r g1 => W (truR r) g1 Q := by rw [tst, W_bnd] <;> nofun
@[simp ↓] theorem Wt_mk {c_ : Str} {as_ : Ts} {dd_ : (List D)} {Q : Bool → Sg → Prop} : W (tst P (.mk c_ as_ dd_)) g Q = W (ev P (.mk c_ as_ dd_)) g fun r g1 => W (truR r) g1 Q := by rw [tst, W_bnd] <;> nofun
@[simp ↓] theorem Wt_attr {o_ : T} {f_ : Str} {Q : Bool → Sg → Prop} : W (tst P (.attr o_ f_)) g Q = W (ev P (.attr o_ f_)) g fun r g1 => W (truR r) g1 Q := by rw [tst, W_bnd] <;> nofun
@[simp ↓] theorem Wt_dict0 {tk_ : Bool} {Q : Bool → Sg → Prop} : W (tst P (.dict0 tk_)) g Q = W (ev P (.dict0 tk_)) g fun r g1 => W (truR r) g1 Q := by rw [tst, W_bnd] <;> nofun
@[simp ↓] theorem Wt_lc {tg_ : Tg} {it_ : It} {cnd_ : Ts} {e_ : T} {Q : Bool → Sg → Prop} : W (tst P (.lc tg_ it_ cnd_ e_)) g Q = W (ev P (.lc tg_ it_ cnd_ e_)) g fun r g1 => W (truR r) g1 Q := by rw [tst, W_bnd] <;> nofun
@[simp ↓] theorem Wb_nm {i_ : Nat} {Q : Option Int → Sg → Prop} : W (bound P (.nm i_)) g Q = W (ev P (.nm i_)) g fun r g1 => G (intR (dview g1 r)) fun i => Q (some i) g1 := Wb_of (by rw [bound] <;> first | rfl | nofun)
@[simp ↓] theorem Wb_mv {i_ : Nat} {Q : Option Int → Sg → Prop} : W (bound P (.mv i_)) g Q = W (ev P (.mv i_)) g fun r g1 => G (intR (dview g1 r)) fun i => Q (some i) g1 := Wb_of (by rw [bound] <;> first | rfl | nofun)
@[simp ↓] theorem Wb_int {i_ : Int} {Q : Option Int → Sg → Prop} : W (bound P (.int i_)) g Q = W (ev P (.int i_)) g fun r g1 => G (intR (dview g1 r)) fun i => Q (some i) g1 := Wb_of (by rw [bound] <;> first | rfl | nofun)
@[simp ↓] theorem Wb_glob {x_ : Str} {Q : Option Int → Sg → Prop} : W (bound P (.glob x_)) g Q = W (ev P (.glob x_)) g fun r g1 => G (intR (dview g1 r)) fun i => Q (some i) g1 := Wb_of (by rw [bound] <;> first | rfl | nofun)
@[simp ↓] theorem Wb_bin {op_ : Operator} {a_ : T} {b_ : T} {Q : Option Int → Sg → Prop} : W (bound P (.bin op_ a_ b_)) g Q = W (ev P (.bin op_ a_ b_)) g fun r g1 => G (intR (dview g1 r)) fun i => Q (some i) g1 := Wb_of (by rw [bound] <;> first | rfl | nofun)
@[simp ↓] theorem Wb_neg {a_ : T} {Q : Option Int → Sg → Prop} : W (bound P (.neg a_)) g Q = W (ev P (.neg a_)) g fun r g1 => G (intR (dview g1 r)) fun i => Q (some i) g1 := Wb_of (by rw [bound] <;> first | rfl | nofun)
@[simp ↓] theorem Wb_ite {c_ : T} {a_ : T} {b_ : T} {Q : Option Int → Sg → Prop} : W (bound P (.ite c_ a_ b_)) g Q = W (ev P (.ite c_ a_ b_)) g fun r g1 => G (intR (dview g1 r)) fun i => Q (some i) g1 := Wb_of (by rw [bound] <;> first | rfl | nofun)
@[simp ↓] theorem Wb_sub {a_ : T} {i_ : T} {Q : Option Int → Sg → Prop} : W (bound P (.sub a_ i_)) g Q = W (ev P (.sub a_ i_)) g fun r g1 => G (intR (dview g1 r)) fun i => Q (some i) g1 := Wb_of (by rw [bound] <;> first | rfl | nofun)
@[simp ↓] theorem Wb_slc {a_ : T} {lo_ : T} {hi_ : T} {Q : Option Int → Sg → Prop} : W (bound P (.slc a_ lo_ hi_)) g Q = W (ev P (.slc a_ lo_ hi_)) g fun r g1 => G (intR (dview g1 r)) fun i => Q (some i) g1 := Wb_of (by rw [bound] <;> first | rfl | nofun)
@[simp ↓] theorem Wb_b1 {f_ : B1} {a_ : T} {Q : Option Int → Sg → Prop} : W (bound P (.b1 f_ a_)) g Q = W (ev P (.b1 f_ a_)) g fun r g1 => G (intR (dview g1 r)) fun i => Q (some i) g1 := Wb_of (by rw [bound] <;> first | rfl | nofun)
@[simp ↓] theorem Wb_b2 {f_ : B2} {a_ : T} {b_ : T} {Q : Option Int → Sg → Prop} : W (bound P (.b2 f_ a_ b_)) g Q = W (ev P (.b2 f_ a_ b_)) g fun r g1 => G (intR (dview g1 r)) fun i => Q (some i) g1 := Wb_of (by rw [bound] <;> first | rfl | nofun)
@[simp ↓] theorem Wb_call {f_ : Nat} {as_ : Ts} {dd_ : (List D)} {Q : Option Int → Sg → Prop} : W (bound P (.call f_ as_ dd_)) g Q = W (ev P (.call f_ as_ dd_)) g fun r g1 => G (intR (dview g1 r)) fun i => Q (some i) g1 := Wb_of (by rw [bound] <;> first | rfl | nofun)
@[simp ↓] theorem Wb_meth {m_ : Mt} {o_ : T} {as_ : Ts} {Q : Option Int → Sg → Prop} : W (bound P (.meth m_ o_ as_)) g Q = W (ev P (.meth m_ o_ as_)) g fun r g1 => G (intR (dview g1 r)) fun i => Q (some i) g1 := Wb_of (by rw [bound] <;> first | rfl | nofun)
@[simp ↓] theorem Wb_omet {c_ : Str} {o_ : T} {m_ : Str} {as_ : Ts} {dd_ : (List D)} {Q : Option Int → Sg → Prop} : W (bound P (.omet c_ o_ m_ as_ dd_)) g Q = W (ev P (.omet c_ o_ m_ as_ dd_)) g fun r g1 => G (intR (dview g1 r)) fun i => Q (some i) g1 := Wb_of (by rw [bound] <;> first | rfl | nofun)
@[simp ↓] theorem Wb_attr {o_ : T} {f_ : Str} {Q : Option Int → Sg → Prop} : W (bound P (.attr o_ f_)) g Q = W (ev P (.attr o_ f_)) g fun r g1 => G (intR (dview g1 r)) fun i => Q (some i) g1 := Wb_of (by rw [bound] <;> first | rfl | nofun)
@[simp ↓] theorem Wb_absent {Q : Option Int → Sg → Prop} : W (bound P .absent) g Q = Q none g := by rw [bound]; rfl
end
@[simp] theorem line_eq_x : line = 16777216 := (rfl)
section
variable {P : Pg} {g : Sg} {a b c e t : T} {i : Nat} {ts : Ts}
@[simp ↓] theorem Wc_nil {Q : Bool → Sg → Prop} : W (conds P .nil) g Q = Q true g := by rw [conds]; rfl
@[simp ↓] theorem Wc_cons {Q : Bool → Sg → Prop} : W (conds P (.cons c ts)) g Q = W (tst P c) g Q := by rw [conds]
@[simp ↓] theorem Wv_slc {Q : Res → Sg → Prop} : W (ev P (.slc a b c)) g Q = W (ev P a) g fun x g1 => W (bound P b) g1 fun l g2 => W (bound P c) g2 fun h g3 => G ((dview g3 x).bind fun d => slcD d l h) fun r => Q r g3 := by
  rw [ev, W_bnd]
  refine W_ext fun x g1 => ?_
  rw [W_bnd]
  refine W_ext fun l g2 => ?_
  rw [W_bnd]
  refine W_ext fun h g3 => ?_
  rw [W_liftO]
  cases dview g3 x <;> rfl
@[simp ↓] theorem Wv_chain {o1 o2 : CmpOp} {Q : Res → Sg → Prop} : W (ev P (.chain o1 o2 a b c)) g Q = W (ev P a) g fun x g1 => W (ev P b) g1 fun y g2 => G (cmpR o1 x y g2) fun t => if t = true then W (ev P c) g2 fun z g3 => G (cmpR o2 y z g3) fun u => Q (.val (.bl u)) g3 else Q (.val (.bl false)) g2 := by
  rw [ev, W_bnd]
  refine W_ext fun x g1 => ?_
  rw [W_bnd]
  refine W_ext fun y g2 => ?_
  rw [W_bnd, W_liftO]
  refine G_ext fun t => ?_
  cases t
  · rfl
  · simp only [if_true]
    rw [W_bnd]
    refine W_ext fun z g3 => ?_
    rw [W_liftO, G_map]
@[simp ↓] theorem Wx_setAttr {f : Str} {Q : Flow → Sg → Prop} : W (ex P (.setAttr a f t)) g Q = W (ev P t) g fun r g1 => W (ev P a) g1 fun x g2 => G (match x, r.sl with
      | .val (.cell n), some s => setAttrD P n f s g2
      | _, _ => none) fun g3 => Q .next g3 := by
  rw [ex, W_bnd]
  refine W_ext fun r g1 => ?_
  rw [W_bnd]
  refine W_ext fun x g2 => ?_
  rw [W_doS] <;> rfl
@[simp ↓] theorem Wx_aug {op : Operator} {Q : Flow → Sg → Prop} : W (ex P (.aug i op t)) g Q = W (ev P (.nm i)) g fun x g1 => W (ev P t) g1 fun y g2 => G (match x, dview g2 y with
      | .val d, some e => match augD op d e with
        | some z => setSl g2 i (.val z)
        | none => none
      | _, _ => none) fun g3 => Q .next g3 := by
  rw [ex, W_bnd]
  refine W_ext fun r g1 => ?_
  rw [W_bnd]
  refine W_ext fun x g2 => ?_
  rw [W_doS] <;> rfl
@[simp ↓] theorem Wx_frz {Q : Flow → Sg → Prop} : W (ex P (.frz i)) g Q = G (frzS i g) fun g1 => Q .next g1 := by rw [ex, W_doS]
@[simp ↓] theorem Wv_ocon {cn : Str} {Q : Res → Sg → Prop} : W (ev P (.ocon cn a b)) g Q = W (ev P a) g fun r g1 => G r.take fun d => W (ev P b) g1 fun z g2 => W (chkI cn (Str.ofString "__contains__") z) g2 fun n g3 => match P.meth cn (Str.ofString "__contains__") with
    | some f => W (callM P f [.v (.cell n), .v d]) g3 fun r g4 => G (match r with
        | .val (.bl b) => some (.val (.bl b))
        | _ => none) fun r => Q r g4
    | none => False := by
  rw [ev, W_bnd, W_take]
  refine W_ext fun x g1 => ?_
  refine G_ext fun d => ?_
  rw [W_bnd]
  refine W_ext fun z g2 => ?_
  rw [W_bnd]
  refine W_ext fun n g3 => ?_
  cases P.meth cn (Str.ofString "__contains__") with
  | none => rfl
  | some f =>
    simp only
    rw [W_bnd]
    refine W_ext fun r g4 => ?_
    rw [W_liftO] <;> rfl
@[simp ↓] theorem Wv_mk {cn : Str} {dd : List D} {Q : Res → Sg → Prop} : W (ev P (.mk cn ts dd)) g Q = W (args P ts) g fun xs g1 => match P.init cn with
    | some f => W (callM P.mk1 f (.v (.cell g1.cs.length) :: (xs ++ dd.map .v))) { g1 with cs := g1.cs ++ [⟨cn, []⟩] } fun r g2 => (match r with | .val .non => True | _ => False) ∧ Q (.val (.cell g1.cs.length)) g2
    | none => False := by
  rw [ev, W_bnd]
  refine W_ext fun xs g1 => ?_
  unfold W
  simp only
  cases P.init cn with
  | none => rfl
  | some f =>
    simp only
    cases callM P.mk1 f (.v (.cell g1.cs.length) :: (xs ++ dd.map .v)) { g1 with cs := g1.cs ++ [⟨cn, []⟩] } with
    | none => rfl
    | some z =>
      obtain ⟨o, g2⟩ := z
      cases o with
      | exc x => rfl
      | ok r =>
        cases r with
        | fresh c => simp
        | brw p => simp
        | val d => cases d <;> simp
end
/-! ### definitions, by cases -/
section
variable {g : Sg} {d e : D} {c : C} {i j : Nat} {x y : Int} {rho : List Sl} {cs : List Inst}
@[simp] theorem nmR_val : nmR (some (.val d)) i = some (.val d) := (rfl)
@[simp] theorem nmR_own : nmR (some (.own c)) i = some (.brw (.slot i)) := (rfl)
@[simp] theorem nmR_ref : nmR (some (.ref c)) i = some (.brw (.slot i)) := (rfl)
@[simp] theorem nmR_lck {b : Bool} : nmR (some (.lck b c)) i = some (.brw (.slot i)) := (rfl)
@[simp] theorem bin2_some {α : Type} {f : D → D → Option α} : bin2 f (some d) (some e) = f d e := (rfl)
@[simp] theorem dview_val : dview g (.val d) = some d := (rfl)
@[simp] theorem dview_fresh {ds : List D} : dview g (.fresh (.lst ds)) = some (.lst ds) := (rfl)
@[simp] theorem dview_brw {p : Pl} : dview g (.brw p) = (cont g p).bind C.view := (rfl)
@[simp] theorem view_lst {ds : List D} : C.view (.lst ds) = some (.lst ds) := (rfl)
@[simp] theorem view_dT {kvs} : C.view (.dT kvs) = none := (rfl)
@[simp] theorem view_dK {kvs} : C.view (.dK kvs) = none := (rfl)
@[simp] theorem cview_fresh : cview g (.fresh c) = some c := (rfl)
@[simp] theorem cview_brw {p : Pl} : cview g (.brw p) = cont g p := (rfl)
@[simp] theorem cont_slot_x : cont ⟨rho, cs⟩ (.slot i) = (rho[i]?).bind Sl.cont := (rfl)
@[simp] theorem cont_fld {f : Str} : cont ⟨rho, cs⟩ (.fld i f) = (cs[i]?).bind fun I => (fget f I.fs).bind Sl.cont := (rfl)
@[simp] theorem slc_own : Sl.cont (.own c) = some c := (rfl)
@[simp] theorem slc_ref : Sl.cont (.ref c) = some c := (rfl)
@[simp] theorem slc_lck {b : Bool} : Sl.cont (.lck b c) = some c := (rfl)
@[simp] theorem slc_val : Sl.cont (.val d) = none := (rfl)
@[simp] theorem slc_un : Sl.cont .un = none := (rfl)
@[simp] theorem take_val : Res.take (.val d) = some d := (rfl)
@[simp] theorem take_lst {ds : List D} : Res.take (.fresh (.lst ds)) = some (.lst ds) := (rfl)
@[simp] theorem put_own {c' : C} : Sl.put c (.own c') = some (.own c) := (rfl)
@[simp] theorem put_ref {c' : C} : Sl.put c (.ref c') = some (.ref c) := (rfl)
@[simp] theorem isRef_lck {b : Bool} : isRef (.lck b c) = true := (rfl)
@[simp] theorem isRef_ref : isRef (.ref c) = true := (rfl)
@[simp] theorem setC_slot_x : setC ⟨rho, cs⟩ (.slot i) c = ((rho[i]?).bind (Sl.put c)).map fun s => ⟨rho.set i s, cs⟩ := (rfl)
@[simp] theorem setSl_eq {s : Sl} : setSl ⟨rho, cs⟩ i s = (rho[i]?).bind fun t => if isRef t = true then none else some ⟨rho.set i s, cs⟩ := by
  unfold setSl
  cases rho[i]? <;> rfl
@[simp] theorem bindTg_nm : bindTg (.nm i) d g = setSl g i (.val d) := (rfl)
@[simp] theorem bindTg_tup {is : List Nat} {ds : List D} : bindTg (.tup is) (.tup ds) g = setMany g is ds := (rfl)
@[simp] theorem setMany_nil : setMany g [] [] = some g := (rfl)
@[simp] theorem setMany_cons {is : List Nat} {ds : List D} : setMany g (i :: is) (d :: ds) = (setSl g i (.val d)).bind fun g1 => setMany g1 is ds := by
  rw [setMany]
  cases setSl g i (.val d) <;> rfl
@[simp] theorem put_val {tg : Tg} {fr : Bool} : put tg fr (.val d) g = bindTg tg d g := (rfl)
@[simp] theorem put_true {ds : List D} : put (.nm i) true (.fresh (.lst ds)) g = setSl g i (.val (.lst ds)) := (rfl)
@[simp] theorem put_false : put (.nm i) false (.fresh c) g = setSl g i (.own c) := (rfl)
@[simp] theorem sl_val : Res.sl (.val d) = some (.val d) := (rfl)
@[simp] theorem sl_fresh : Res.sl (.fresh c) = some (.own c) := (rfl)
@[simp] theorem nb_val : nb (.val d) = true := (rfl)
@[simp] theorem nb_fresh : nb (.fresh c) = true := (rfl)
@[simp] theorem binD_add : binD .Add (.int x) (.int y) = some (.val (.int (x + y))) := (rfl)
@[simp] theorem binD_sub : binD .Sub (.int x) (.int y) = some (.val (.int (x - y))) := (rfl)
@[simp] theorem binD_mul : binD .Mult (.int x) (.int y) = if mulOk x y = true then some (.val (.int (x * y))) else none := (rfl)
/-- a divisor of a fair size -/
def fdOk (y : Int) : Bool := decide (y.natAbs.log2 < 9000)
theorem fdOk_of (h : y.natAbs < 340282366920938463463374607431768211456) : fdOk y = true := by
  unfold fdOk
  rw [decide_eq_true_iff]
  by_cases z : y.natAbs = 0
  · rw [z]; decide
  · exact Nat.lt_of_lt_of_le ((Nat.log2_lt z).mpr (show y.natAbs < 2 ^ 128 from h)) (by decide)
@[simp] theorem binD_fdiv : binD .FloorDiv (.int x) (.int y) = if 0 < y ∧ fdOk y = true then some (.val (.int (x / y))) else none := by
  have e : binD .FloorDiv (.int x) (.int y) = if 0 < y ∧ y.natAbs.log2 < 9000 then some (.val (.int (x / y))) else none := rfl
  rw [e]
  unfold fdOk
  simp only [decide_eq_true_eq]
@[simp] theorem binD_mod : binD .Mod (.int x) (.int y) = if 0 < y then some (.val (.int (x % y))) else none := (rfl)
@[simp] theorem binD_pow : binD .Pow (.int x) (.int y) = if 0 ≤ y ∧ ((bits x : Int)) * y ≤ 134217728 then some (.val (.int (x ^ y.toNat))) else none := (rfl)
@[simp] theorem binD_addl {a b : List D} : binD .Add (.lst a) (.lst b) = if a.length + b.length ≤ line then some (.fresh (.lst (a ++ b))) else none := (rfl)
@[simp] theorem binD_addt {a b : List D} : binD .Add (.tup a) (.tup b) = if a.length + b.length ≤ line then some (.val (.tup (a ++ b))) else none := (rfl)
@[simp] theorem binD_adds {a b : Str} : binD .Add (.str a) (.str b) = if a.length + b.length ≤ line then some (.val (.str (a ++ b))) else none := (rfl)
@[simp] theorem binD_mull {a : List D} : binD .Mult (.lst a) (.int y) = if 0 ≤ y ∧ y ≤ 16777216 ∧ a.length * y.toNat ≤ line then some (.fresh (.lst (List.replicate y.toNat a).flatten)) else none := (rfl)
@[simp] theorem slcD_lst {ds : List D} {lo hi : Option Int} : slcD (.lst ds) lo hi = some (.fresh (.lst (cutD ds lo hi))) := (rfl)
@[simp] theorem slcD_tup {ds : List D} {lo hi : Option Int} : slcD (.tup ds) lo hi = some (.val (.tup (cutD ds lo hi))) := (rfl)
@[simp] theorem cmpD_lt : cmpD .Lt (.int x) (.int y) = some (decide (x < y)) := (rfl)
@[simp] theorem cmpD_le : cmpD .LtE (.int x) (.int y) = some (decide (x ≤ y)) := (rfl)
@[simp] theorem cmpD_gt : cmpD .Gt (.int x) (.int y) = some (decide (y < x)) := (rfl)
@[simp] theorem cmpD_ge : cmpD .GtE (.int x) (.int y) = some (decide (y ≤ x)) := (rfl)
@[simp] theorem cmpD_eq_x : cmpD .Eq d e = eqD d e := (rfl)
@[simp] theorem cmpD_ne_x : cmpD .NotEq d e = (eqD d e).map (!·) := (rfl)
@[simp] theorem cmpD_inl {ds : List D} : cmpD .In d (.lst ds) = inD d ds := (rfl)
@[simp] theorem cmpD_int {ds : List D} : cmpD .In d (.tup ds) = inD d ds := (rfl)
@[simp] theorem cmpD_ninl {ds : List D} : cmpD .NotIn d (.lst ds) = (inD d ds).map (!·) := (rfl)
@[simp] theorem cmpD_nint {ds : List D} : cmpD .NotIn d (.tup ds) = (inD d ds).map (!·) := (rfl)
/-- is it None -/
def isNon : D → Bool
  | .non => true
  | _ => false
@[simp] theorem isNon_non : isNon .non = true := (rfl)
@[simp] theorem isNon_int : isNon (.int x) = false := (rfl)
@[simp] theorem isNon_bl {b : Bool} : isNon (.bl b) = false := (rfl)
@[simp] theorem isNon_str {s : Str} : isNon (.str s) = false := (rfl)
@[simp] theorem isNon_lst {ds : List D} : isNon (.lst ds) = false := (rfl)
@[simp] theorem isNon_tup {ds : List D} : isNon (.tup ds) = false := (rfl)
@[simp] theorem isNon_cell {n : Nat} : isNon (.cell n) = false := (rfl)
@[simp] theorem cmpD_is : cmpD .Is d .non = some (isNon d) := by cases d <;> rfl
@[simp] theorem cmpD_isn : cmpD .IsNot d .non = some (!isNon d) := by cases d <;> rfl
/-- a comparison of readable things -/
theorem cmpR_of {op : CmpOp} {r s : Res} (h : ∀ c, cview g s = some c → ∃ ds, c = .lst ds) : cmpR op r s g = bin2 (cmpD op) (dview g r) (dview g s) := by
  unfold cmpR bin2
  split
  · rename_i h1; obtain ⟨ds, h2⟩ := h _ h1; cases h2
  · rename_i h1; obtain ⟨ds, h2⟩ := h _ h1; cases h2
  · rename_i h1; obtain ⟨ds, h2⟩ := h _ h1; cases h2
  · rename_i h1; obtain ⟨ds, h2⟩ := h _ h1; cases h2
  · rfl
@[simp] theorem cmpR_val {op : CmpOp} {r : Res} : cmpR op r (.val d) g = bin2 (cmpD op) (dview g r) (some d) := by
  rw [cmpR_of]
  · rfl
  · intro c h
    cases d <;> simp [cview] at h
    exact ⟨_, h.symm⟩
@[simp] theorem cmpR_fresh {op : CmpOp} {r : Res} {ds : List D} : cmpR op r (.fresh (.lst ds)) g = bin2 (cmpD op) (dview g r) (some (.lst ds)) := by
  rw [cmpR_of]
  · rfl
  · intro c h
    cases h
    exact ⟨_, rfl⟩
/-- a comparison with a container -/
def cmpC (op : CmpOp) (d : Option D) : Option C → Option Bool
  | some (.lst ds) => bin2 (cmpD op) d (some (.lst ds))
  | some (.dK kvs) => match op with
    | .In => d.bind fun d => inC d (.dK kvs)
    | .NotIn => d.bind fun d => (inC d (.dK kvs)).map (!·)
    | _ => none
  | some (.dT kvs) => match op with
    | .In => d.bind fun d => inC d (.dT kvs)
    | .NotIn => d.bind fun d => (inC d (.dT kvs)).map (!·)
    | _ => none
  | none => none
@[simp] theorem cmpR_brw {op : CmpOp} {r : Res} {p : Pl} : cmpR op r (.brw p) g = cmpC op (dview g r) (cont g p) := by
  cases h : cont g p with
  | none =>
    rw [cmpR_of]
    · simp [h, cmpC]; cases dview g r <;> rfl
    · intro c h2; simp [h] at h2
  | some c =>
    cases c with
    | lst ds =>
      rw [cmpR_of]
      · simp [h, cmpC]
      · intro c h2; simp [h] at h2; exact ⟨_, h2.symm⟩
    | dK kvs =>
      unfold cmpR
      simp [h, cmpC]
      cases op <;> simp <;> (cases dview g r <;> rfl)
    | dT kvs =>
      unfold cmpR
      simp [h, cmpC]
      cases op <;> simp <;> (cases dview g r <;> rfl)
@[simp] theorem cmpC_lst {op : CmpOp} {ds : List D} : cmpC op (some d) (some (.lst ds)) = cmpD op d (.lst ds) := (rfl)
@[simp] theorem cmpC_inK {kvs} : cmpC .In (some d) (some (.dK kvs)) = inC d (.dK kvs) := (rfl)
@[simp] theorem cmpC_inT {kvs} : cmpC .In (some d) (some (.dT kvs)) = inC d (.dT kvs) := (rfl)
@[simp] theorem cmpC_ninK {kvs} : cmpC .NotIn (some d) (some (.dK kvs)) = (inC d (.dK kvs)).map (!·) := (rfl)
@[simp] theorem cmpC_ninT {kvs} : cmpC .NotIn (some d) (some (.dT kvs)) = (inC d (.dT kvs)).map (!·) := (rfl)
/-- a built-in function on a container -/
def b1C (f : B1) : Option C → Option Res
  | some (.lst ds) => b1D f (.lst ds)
  | some (.dT kvs) => match f with
    | .list => some (.fresh (.lst (kvs.map fun p => .tup (p.1.map kD))))
    | _ => none
  | _ => none
@[simp] theorem b1R_val {f : B1} : b1R f (.val d) g = b1D f d := by
  unfold b1R
  cases f <;> cases d <;> rfl
@[simp] theorem b1R_fresh {f : B1} {ds : List D} : b1R f (.fresh (.lst ds)) g = b1D f (.lst ds) := by
  unfold b1R
  cases f <;> rfl
@[simp] theorem b1R_brw {f : B1} {p : Pl} : b1R f (.brw p) g = b1C f (cont g p) := by
  unfold b1R
  simp
  cases cont g p with
  | none => cases f <;> rfl
  | some c => cases f <;> cases c <;> rfl
@[simp] theorem b1C_lst {f : B1} {ds : List D} : b1C f (some (.lst ds)) = b1D f (.lst ds) := (rfl)
@[simp] theorem b1C_dT {kvs} : b1C .list (some (.dT kvs)) = some (.fresh (.lst (kvs.map fun p => .tup (p.1.map kD)))) := (rfl)
@[simp] theorem b1_len : b1D .len d = (lenD d).bind fun n => if n ≤ line then some (.val (.int n)) else none := (rfl)
@[simp] theorem lenD_lst {ds : List D} : lenD (.lst ds) = some ds.length := (rfl)
@[simp] theorem lenD_tup {ds : List D} : lenD (.tup ds) = some ds.length := (rfl)
@[simp] theorem lenD_str {s : Str} : lenD (.str s) = some s.length := (rfl)
@[simp] theorem b1_int : b1D .int (.int x) = some (.val (.int x)) := (rfl)
@[simp] theorem b1_intb {b : Bool} : b1D .int (.bl b) = some (.val (.int (if b then 1 else 0))) := (rfl)
@[simp] theorem b1_abs : b1D .abs (.int x) = some (.val (.int (if x < 0 then -x else x))) := (rfl)
@[simp] theorem b1_list {ds : List D} : b1D .list (.lst ds) = some (.fresh (.lst ds)) := (rfl)
@[simp] theorem b1_listt {ds : List D} : b1D .list (.tup ds) = some (.fresh (.lst ds)) := (rfl)
@[simp] theorem b1_tup {ds : List D} : b1D .tuple (.lst ds) = some (.val (.tup ds)) := (rfl)
@[simp] theorem b1_tupt {ds : List D} : b1D .tuple (.tup ds) = some (.val (.tup ds)) := (rfl)
@[simp] theorem b1_sort {ds : List D} : b1D .sorted (.lst ds) = (sortD ds).map fun r => .fresh (.lst r) := (rfl)
@[simp] theorem b2_max : b2D .max (.int x) (.int y) = some (.val (.int (if y > x then y else x))) := (rfl)
@[simp] theorem b2_min : b2D .min (.int x) (.int y) = some (.val (.int (if y < x then y else x))) := (rfl)
@[simp] theorem subD_lst {ds : List D} : subD (.lst ds) (.int x) = (ixD ds x).map .val := (rfl)
@[simp] theorem subD_tup {ds : List D} : subD (.tup ds) (.int x) = (ixD ds x).map .val := (rfl)
@[simp] theorem subD_str {s : Str} : subD (.str s) (.int x) = if s.length ≤ line then (ixD s.cps.toList x).map fun c => .val (.str ⟨#[c]⟩) else none := (rfl)
/-- an index in its range -/
theorem ixD_of {α : Type} {xs : List α} {k : Nat} : ixD xs (k : Int) = xs[k]? := by
  unfold ixD ixN
  by_cases h : k < xs.length
  · have e : (0 : Int) ≤ k := by omega
    have e2 : (k : Int) < (xs.length : Int) := by omega
    simp [e, e2]
  · have e : (0 : Int) ≤ k := by omega
    have e2 : ¬ (k : Int) < (xs.length : Int) := by omega
    rw [if_pos e, if_neg e2, Option.bind_none, List.getElem?_eq_none (by omega)]
theorem ixD_nn {α : Type} {xs : List α} {v : Int} (h0 : 0 ≤ v) : ixD xs v = xs[v.toNat]? := by
  have e : v = (v.toNat : Int) := by omega
  rw [e, ixD_of]
  rfl
@[simp] theorem ixD_eq_x {α : Type} {xs : List α} {v : Int} : ixD xs v = (ixN xs.length v).bind fun j => xs[j]? := (rfl)
@[simp] theorem ixN_eq {n : Nat} {v : Int} : ixN n v = if 0 ≤ v then (if v < n then some v.toNat else none) else if -(n : Int) ≤ v then some (v + n).toNat else none := (rfl)
theorem ixN_nn {n : Nat} {v : Int} (h0 : 0 ≤ v) (h1 : v < n) : ixN n v = some v.toNat := by
  unfold ixN
  rw [if_pos h0, if_pos h1]
/-- truth of a thing -/
def truC : Option C → Option Bool
  | some (.lst ds) => some (!ds.isEmpty)
  | some (.dK kvs) => some (!kvs.isEmpty)
  | _ => none
@[simp] theorem truC_lst {ds : List D} : truC (some (.lst ds)) = some (!ds.isEmpty) := (rfl)
@[simp] theorem truC_dK {kvs} : truC (some (.dK kvs)) = some (!kvs.isEmpty) := (rfl)
@[simp ↓] theorem truR_val {Q : Bool → Sg → Prop} : W (truR (.val d)) g Q = G (truD d) fun b => Q b g := by
  unfold truR
  rw [W_liftO]
  rfl
@[simp ↓] theorem truR_fresh {Q : Bool → Sg → Prop} {ds : List D} : W (truR (.fresh (.lst ds))) g Q = Q (!ds.isEmpty) g := by
  unfold truR
  rw [W_liftO]
  rfl
@[simp ↓] theorem truR_brw {Q : Bool → Sg → Prop} {p : Pl} : W (truR (.brw p)) g Q = G (truC (cont g p)) fun b => Q b g := by
  unfold truR
  rw [W_liftO]
  simp only
  cases cont g p with
  | none => rfl
  | some c => cases c <;> rfl
@[simp] theorem truD_non : truD .non = some false := (rfl)
@[simp] theorem truD_bl {b : Bool} : truD (.bl b) = some b := (rfl)
@[simp] theorem truD_int : truD (.int x) = some (x != 0) := (rfl)
@[simp] theorem truD_lst {ds : List D} : truD (.lst ds) = some (!ds.isEmpty) := (rfl)
@[simp] theorem truD_tup {ds : List D} : truD (.tup ds) = some (!ds.isEmpty) := (rfl)
@[simp] theorem chkC_eq {Q : Unit → Sg → Prop} : W (chkC i) g Q = G (cont g (.slot i)) fun _ => Q () g := by
  unfold chkC
  rw [W_liftO, G_map]
@[simp ↓] theorem items_seq {P : Pg} {t : T} {Q : (List D × Option Nat) → Sg → Prop} : W (items P (.seq t)) g Q = W (ev P t) g fun r g1 => G ((dview g1 r).bind seqD) fun ds => G (lockOf g1 r) fun l => Q (ds, l) g1 := by
  rw [items, W_bnd]
  refine W_ext fun r g1 => ?_
  rw [W_liftO]
  cases (dview g1 r).bind seqD with
  | none => rfl
  | some ds => cases lockOf g1 r <;> rfl
theorem items_rng1 {P : Pg} {t : T} {Q : (List D × Option Nat) → Sg → Prop} : W (items P (.rng1 t)) g Q = W (ev P t) g fun r g1 => G (intR (dview g1 r)) fun n => G (rngD 0 n) fun ds => Q (ds, none) g1 := by
  rw [items, W_bnd]
  refine W_ext fun r g1 => ?_
  rw [W_liftO]
  cases dview g1 r with
  | none => rfl
  | some d =>
    cases d <;> try rfl
    simp only [intR, G_some, G_map]
theorem items_rng2 {P : Pg} {a t : T} {Q : (List D × Option Nat) → Sg → Prop} : W (items P (.rng2 a t)) g Q = W (ev P a) g fun x g1 => W (ev P t) g1 fun r g2 => G (intR (dview g2 x)) fun m => G (intR (dview g2 r)) fun n => G (rngD m n) fun ds => Q (ds, none) g2 := by
  rw [items, W_bnd]
  refine W_ext fun x g1 => ?_
  rw [W_bnd]
  refine W_ext fun r g2 => ?_
  rw [W_liftO]
  cases dview g2 x with
  | none => rfl
  | some d =>
    cases dview g2 r with
    | none => cases d <;> rfl
    | some e => cases d <;> cases e <;> first | rfl | simp only [intR, G_some, G_map]
theorem W_for' {P : Pg} {tg : Tg} {it : It} {b : Ss} {g : Sg} {Q : Flow → Sg → Prop} : W (ex P (.for_ tg it b)) g Q = W (items P it) g fun p g1 => W (loopS tg (exs P b) p.1) (lock p.2 g1) fun fl g2 => Q fl (unlock p.2 g2) := W_for
/-- a range's list -/
@[irreducible] def Rg (hi : Int) (K : List D → Prop) (_u : Mk1 K := .mk) : Prop := G (rngD 0 hi) K
theorem Rg_eq {hi : Int} {K : List D → Prop} : Rg hi K = G (rngD 0 hi) K := by unfold Rg; rfl
@[irreducible] def Rg2 (lo hi : Int) (K : List D → Prop) (_u : Mk1 K := .mk) : Prop := G (rngD lo hi) K
theorem Rg2_eq {lo hi : Int} {K : List D → Prop} : Rg2 lo hi K = G (rngD lo hi) K := by unfold Rg2; rfl
@[simp ↓ high] theorem W_for1 {P : Pg} {tg : Tg} {a : T} {b : Ss} {g : Sg} {Q : Flow → Sg → Prop} : W (ex P (.for_ tg (.rng1 a) b)) g Q = W (ev P a) g fun r g1 => G (intR (dview g1 r)) fun n => Rg n fun ds => W (loopS tg (exs P b) ds) g1 Q := by
  rw [W_for', items_rng1]
  refine W_ext fun r g1 => G_ext fun n => ?_
  rw [Rg_eq]
  rfl
@[simp ↓ high] theorem W_for2 {P : Pg} {tg : Tg} {a c : T} {b : Ss} {g : Sg} {Q : Flow → Sg → Prop} : W (ex P (.for_ tg (.rng2 a c) b)) g Q = W (ev P a) g fun x g1 => W (ev P c) g1 fun r g2 => G (intR (dview g2 x)) fun m => G (intR (dview g2 r)) fun n => Rg2 m n fun ds => W (loopS tg (exs P b) ds) g2 Q := by
  rw [W_for', items_rng2]
  refine W_ext fun x g1 => W_ext fun r g2 => G_ext fun m => G_ext fun n => ?_
  rw [Rg2_eq]
  rfl
@[simp ↓] theorem items_rng1' {P : Pg} {t : T} {Q : (List D × Option Nat) → Sg → Prop} : W (items P (.rng1 t)) g Q = W (ev P t) g fun r g1 => G (intR (dview g1 r)) fun n => Rg n fun ds => Q (ds, none) g1 := by
  rw [items_rng1]
  refine W_ext fun r g1 => G_ext fun n => ?_
  rw [Rg_eq]
@[simp ↓] theorem items_rng2' {P : Pg} {a t : T} {Q : (List D × Option Nat) → Sg → Prop} : W (items P (.rng2 a t)) g Q = W (ev P a) g fun x g1 => W (ev P t) g1 fun r g2 => G (intR (dview g2 x)) fun m => G (intR (dview g2 r)) fun n => Rg2 m n fun ds => Q (ds, none) g2 := by
  rw [items_rng2]
  refine W_ext fun x g1 => W_ext fun r g2 => G_ext fun m => G_ext fun n => ?_
  rw [Rg2_eq]
@[simp ↓ high] theorem W_forS {P : Pg} {tg : Tg} {t : T} {b : Ss} {g : Sg} {Q : Flow → Sg → Prop} : W (ex P (.for_ tg (.seq t) b)) g Q = W (ev P t) g fun r g1 => G ((dview g1 r).bind seqD) fun ds => G (lockOf g1 r) fun l => W (loopS tg (exs P b) ds) (lock l g1) fun fl g2 => Q fl (unlock l g2) := by
  rw [W_for', items_seq] <;> rfl
@[simp] theorem seqD_lst {ds : List D} : seqD (.lst ds) = some ds := (rfl)
@[simp] theorem seqD_tup {ds : List D} : seqD (.tup ds) = some ds := (rfl)
@[simp] theorem seqD_scr {ns : List Int} : seqD (.scr ns) = some (ns.map .int) := (rfl)
@[simp] theorem lockOf_val : lockOf g (.val d) = some none := (rfl)
@[simp] theorem lockOf_fresh : lockOf g (.fresh c) = some none := (rfl)
@[simp] theorem lock_none : lock none g = g := (rfl)
@[simp] theorem unlock_none : unlock none g = g := (rfl)
@[simp] theorem isi_int : isTy (.int x) .int = some true := (rfl)
@[simp] theorem isi_intb {b : Bool} : isTy (.bl b) .int = some true := (rfl)
@[simp] theorem isi_bb {b : Bool} : isTy (.bl b) .bool = some true := (rfl)
@[simp] theorem isi_ib : isTy (.int x) .bool = some false := (rfl)
@[simp] theorem isi_ss {s : Str} : isTy (.str s) .str = some true := (rfl)
@[simp] theorem isi_si {s : Str} : isTy (.str s) .int = some false := (rfl)
@[simp] theorem isi_sb {s : Str} : isTy (.str s) .bool = some false := (rfl)
@[simp] theorem isi_sl {s : Str} : isTy (.str s) .list = some false := (rfl)
@[simp] theorem isi_st {s : Str} : isTy (.str s) .tuple = some false := (rfl)
@[simp] theorem isi_is : isTy (.int x) .str = some false := (rfl)
@[simp] theorem isi_il : isTy (.int x) .list = some false := (rfl)
@[simp] theorem isi_it : isTy (.int x) .tuple = some false := (rfl)
@[simp] theorem isi_bs {b : Bool} : isTy (.bl b) .str = some false := (rfl)
@[simp] theorem isi_bl {b : Bool} : isTy (.bl b) .list = some false := (rfl)
@[simp] theorem isi_bt {b : Bool} : isTy (.bl b) .tuple = some false := (rfl)
@[simp] theorem isi_li {ds : List D} : isTy (.lst ds) .int = some false := (rfl)
@[simp] theorem isi_lb {ds : List D} : isTy (.lst ds) .bool = some false := (rfl)
@[simp] theorem isi_ls {ds : List D} : isTy (.lst ds) .str = some false := (rfl)
@[simp] theorem isi_ll {ds : List D} : isTy (.lst ds) .list = some true := (rfl)
@[simp] theorem isi_lt {ds : List D} : isTy (.lst ds) .tuple = some false := (rfl)
@[simp] theorem isi_ti {ds : List D} : isTy (.tup ds) .int = some false := (rfl)
@[simp] theorem isi_tb {ds : List D} : isTy (.tup ds) .bool = some false := (rfl)
@[simp] theorem isi_ts {ds : List D} : isTy (.tup ds) .str = some false := (rfl)
@[simp] theorem isi_tl {ds : List D} : isTy (.tup ds) .list = some false := (rfl)
@[simp] theorem isi_tt {ds : List D} : isTy (.tup ds) .tuple = some true := (rfl)
@[simp] theorem isi_ni : isTy .non .int = some false := (rfl)
@[simp] theorem isi_nb : isTy .non .bool = some false := (rfl)
@[simp] theorem isi_ns : isTy .non .str = some false := (rfl)
@[simp] theorem isi_nl : isTy .non .list = some false := (rfl)
@[simp] theorem isi_nt : isTy .non .tuple = some false := (rfl)
@[simp] theorem pg_fld {p : Prog} {x1 y1 : CallF} : (p.pg x1 y1).fld = p.fld := (rfl)
@[simp] theorem pg_call {p : Prog} {x1 y1 : CallF} : (p.pg x1 y1).call = x1 := (rfl)
@[simp] theorem pg_glob {p : Prog} {x1 y1 : CallF} : (p.pg x1 y1).glob = p.glob := (rfl)
@[simp] theorem pg_meth {p : Prog} {x1 y1 : CallF} : (p.pg x1 y1).meth = p.meth := (rfl)
@[simp] theorem pg_init {p : Prog} {x1 y1 : CallF} : (p.pg x1 y1).init = p.init := (rfl)
@[simp] theorem pg_make {p : Prog} {x1 y1 : CallF} : (p.pg x1 y1).make = y1 := (rfl)
@[simp] theorem outs_nil : outsOf g i [] = some [] := (rfl)
@[simp] theorem outs_v {as : List Arg} : outsOf g i (.v d :: as) = outsOf g (i + 1) as := (rfl)
@[simp] theorem outs_r {as : List Arg} : outsOf g i (.r c :: as) = match g.rho[i]?, outsOf g (i + 1) as with
    | some (.ref c), some cs => some (c :: cs)
    | _, _ => none := rfl
@[simp] theorem initRho_eq {n : Nat} {as : List Arg} : initRho n as = as.map (fun a => match a with | .v d => Sl.val d | .r c => Sl.ref c) ++ List.replicate (n - as.length) .un := (rfl)
@[simp] theorem wb_nil : writeBack g [] [] = some g := (rfl)
@[simp] theorem wb_cons {is : List Nat} {c : C} {l : List C} : writeBack g (i :: is) (c :: l) = (setC g (.slot i) c).bind fun g1 => writeBack g1 is l := by
  rw [writeBack]
  cases setC g (.slot i) c <;> rfl
/-- a container with one place set -/
def ssC (i v : D) : Option C → Option C
  | some (.lst ds) => match i with
    | .int i => (ixN ds.length i).map fun j => .lst (ds.set j v)
    | _ => none
  | some (.dK kvs) => (keyD i).bind fun k => if kvs.length < line then some (.dK (putK k v kvs)) else none
  | some (.dT kvs) => match i with
    | .tup ks => (keysD ks).bind fun k => if kvs.length < line then some (.dT (putK k v kvs)) else none
    | _ => none
  | none => none
@[simp] theorem ssC_lst {v : D} {ds : List D} : ssC (.int x) v (some (.lst ds)) = (ixN ds.length x).map fun j => .lst (ds.set j v) := (rfl)
@[simp] theorem ssC_dK {k v : D} {kvs} : ssC k v (some (.dK kvs)) = (keyD k).bind fun k => if kvs.length < line then some (.dK (putK k v kvs)) else none := (rfl)
@[simp] theorem ssC_dT {ks : List D} {v : D} {kvs} : ssC (.tup ks) v (some (.dT kvs)) = (keysD ks).bind fun k => if kvs.length < line then some (.dT (putK k v kvs)) else none := (rfl)
@[simp] theorem setSubD_brw {p : Pl} {k v : D} : setSubD (.brw p) k v g = (ssC k v (cont g p)).bind (setC g p) := by
  unfold setSubD ssC
  simp only
  cases cont g p with
  | none => rfl
  | some c =>
    cases c with
    | lst ds => cases k <;> first | rfl | (simp only [Option.bind_map]; rfl)
    | dK kvs =>
      simp only
      cases keyD k with
      | none => rfl
      | some k => simp only [Option.bind_some]; split <;> rfl
    | dT kvs =>
      cases k <;> try rfl
      rename_i ks
      simp only
      cases keysD ks with
      | none => rfl
      | some k => simp only [Option.bind_some]; split <;> rfl
def appC (d : D) : Option C → Option C
  | some (.lst ds) => if ds.length < line then some (.lst (ds ++ [d])) else none
  | _ => none
@[simp] theorem appC_lst {ds : List D} : appC d (some (.lst ds)) = if ds.length < line then some (.lst (ds ++ [d])) else none := (rfl)
@[simp] theorem meth_app {p : Pl} : methD .append (.brw p) [d] g = ((appC d (cont g p)).bind (setC g p)).map fun g' => (.val .non, g') := by
  unfold methD
  simp only
  cases cont g p with
  | none => rfl
  | some c =>
    cases c with
    | lst ds => simp only [appC]; split <;> rfl
    | dK _ => rfl
    | dT _ => rfl
def popC : Option C → Option (D × C)
  | some (.lst ds) => (ds.getLast?).map fun d => (d, .lst ds.dropLast)
  | _ => none
@[simp] theorem popC_lst {ds : List D} : popC (some (.lst ds)) = (ds.getLast?).map fun d => (d, .lst ds.dropLast) := (rfl)
@[simp] theorem meth_pop {p : Pl} : methD .pop0 (.brw p) [] g = (popC (cont g p)).bind fun q => (setC g p q.2).map fun g' => (.val q.1, g') := by
  unfold methD
  simp only
  cases cont g p with
  | none => rfl
  | some c =>
    cases c with
    | lst ds => simp only [popC]; cases ds.getLast? <;> rfl
    | dK _ => rfl
    | dT _ => rfl
def getC (k e : D) : Option C → Option D
  | some (.dK kvs) => (keyD k).map fun k => (look k kvs).getD e
  | some (.dT kvs) => match k with
    | .tup ks => (keysD ks).map fun k => (look k kvs).getD e
    | _ => none
  | _ => none
@[simp] theorem getC_dK {kvs} : getC d e (some (.dK kvs)) = (keyD d).map fun k => (look k kvs).getD e := (rfl)
@[simp] theorem getC_dT {ks : List D} {kvs} : getC (.tup ks) e (some (.dT kvs)) = (keysD ks).map fun k => (look k kvs).getD e := (rfl)
@[simp] theorem meth_get {p : Pl} : methD .dget (.brw p) [d, e] g = (getC d e (cont g p)).map fun r => (.val r, g) := by
  unfold methD getC
  simp only
  cases cont g p with
  | none => rfl
  | some c =>
    cases c with
    | lst ds => rfl
    | dK kvs => simp only [Option.map_map]; rfl
    | dT kvs => cases d <;> first | rfl | (simp only [Option.map_map]; rfl)
@[simp] theorem meth_dpop {p : Pl} {ks : List D} {kvs} (h : cont g p = some (.dT kvs)) : methD .dpop (.brw p) [.tup ks, e] g = (keysD ks).bind fun k => (setC g p (.dT (delK k kvs))).map fun g' => (.val ((look k kvs).getD e), g') := by
  unfold methD
  simp only [h]
/-- a receiver of the method -/
def chkMC : Mt → Option C → Bool
  | .append, some (.lst _) => true
  | .pop0, some (.lst _) => true
  | .dget, some (.dK _) => true
  | .dget, some (.dT _) => true
  | .dpop, some (.dT _) => true
  | _, _ => false
@[simp] theorem chkMC_app {ds : List D} : chkMC .append (some (.lst ds)) = true := (rfl)
@[simp] theorem chkMC_pop {ds : List D} : chkMC .pop0 (some (.lst ds)) = true := (rfl)
@[simp] theorem chkMC_getK {kvs} : chkMC .dget (some (.dK kvs)) = true := (rfl)
@[simp] theorem chkMC_getT {kvs} : chkMC .dget (some (.dT kvs)) = true := (rfl)
@[simp] theorem chkMC_dpop {kvs} : chkMC .dpop (some (.dT kvs)) = true := (rfl)
@[simp ↓] theorem chkM_brw {m : Mt} {p : Pl} {Q : Unit → Sg → Prop} : W (chkM m (.brw p)) g Q = (chkMC m (cont g p) = true ∧ Q () g) := by
  unfold chkM
  rw [W_liftO]
  simp only
  cases cont g p with
  | none => cases m <;> simp [chkMC, G]
  | some c => cases m <;> cases c <;> simp [chkMC, G]
/-- a field's slot, read -/
def fldR (n : Nat) (f : Str) : Option Sl → Option Res
  | some (.val d) => some (.val d)
  | some (.own _) => some (.brw (.fld n f))
  | _ => none
@[simp] theorem fldR_val {f : Str} : fldR i f (some (.val d)) = some (.val d) := (rfl)
@[simp] theorem fldR_own {f : Str} : fldR i f (some (.own c)) = some (.brw (.fld i f)) := (rfl)
@[simp] theorem attrD_cell {P : Pg} {f : Str} : attrD P (.cell i) f ⟨rho, cs⟩ = (cs[i]?).bind fun I => if P.fld I.c f = true then fldR i f (fget f I.fs) else none := by
  unfold attrD
  simp only
  cases cs[i]? with
  | none => rfl
  | some I =>
    simp only [Option.bind_some]
    split
    · cases fget f I.fs with
      | none => rfl
      | some s => cases s <;> rfl
    · rfl
@[simp] theorem setC_fld_x {f : Str} : setC ⟨rho, cs⟩ (.fld i f) c = (cs[i]?).bind fun I => ((fget f I.fs).bind (Sl.put c)).map fun s => ⟨rho, cs.set i ⟨I.c, fput f s I.fs⟩⟩ := by
  unfold setC
  simp only
  cases cs[i]? <;> rfl
@[simp] theorem setAttrD_eq {P : Pg} {f : Str} {s : Sl} : setAttrD P i f s ⟨rho, cs⟩ = (cs[i]?).bind fun I => if P.fld I.c f = true ∧ I.fs.length < 1000 ∧ noCont f I.fs = true then some ⟨rho, cs.set i ⟨I.c, fput f s I.fs⟩⟩ else none := by
  unfold setAttrD
  simp only
  cases cs[i]? with
  | none => rfl
  | some I => simp [and_assoc]
@[simp ↓] theorem chkI_cell {cn m : Str} {Q : Nat → Sg → Prop} : W (chkI cn m (.val (.cell i))) ⟨rho, cs⟩ Q = G (cs[i]?) fun I => (I.c = cn ∧ (fget m I.fs).isNone = true) ∧ Q i ⟨rho, cs⟩ := by
  unfold chkI
  rw [W_liftO]
  simp only
  rw [G_bind]
  refine G_ext fun I => ?_
  rw [G_ite]
  rfl
@[simp] theorem fget_nil {f : Str} : fget f [] = none := (rfl)
@[simp] theorem fget_cons {f n : Str} {s : Sl} {r : List (Str × Sl)} : fget f ((n, s) :: r) = if n = f then some s else fget f r := (rfl)
@[simp] theorem fput_nil {f : Str} {s : Sl} : fput f s [] = [(f, s)] := (rfl)
@[simp] theorem fput_cons {f n : Str} {s t : Sl} {r : List (Str × Sl)} : fput f s ((n, t) :: r) = if n = f then (n, s) :: r else (n, t) :: fput f s r := (rfl)
/-- a walked slot -/
def lockS : Sl → Sl
  | .own c => .lck false c
  | .ref c => .lck true c
  | s => s
def unlockS : Sl → Sl
  | .lck false c => .own c
  | .lck true c => .ref c
  | s => s
@[simp] theorem lockS_own : lockS (.own c) = .lck false c := (rfl)
@[simp] theorem lockS_ref : lockS (.ref c) = .lck true c := (rfl)
@[simp] theorem lockS_lck {b : Bool} : lockS (.lck b c) = .lck b c := (rfl)
@[simp] theorem unlockS_f : unlockS (.lck false c) = .own c := (rfl)
@[simp] theorem unlockS_t : unlockS (.lck true c) = .ref c := (rfl)
theorem set_same {α : Type} {l : List α} {s : α} (h : l[i]? = some s) : l.set i s = l := by
  refine List.ext_getElem? fun j => ?_
  rw [List.getElem?_set]
  split
  · rename_i e
    subst e
    split
    · exact h.symm
    · rename_i hl; rw [List.getElem?_eq_none (by omega)]
  · rfl
@[simp] theorem lock_some : lock (some i) ⟨rho, cs⟩ = ⟨(match rho[i]? with | some s => rho.set i (lockS s) | none => rho), cs⟩ := by
  unfold lock
  simp only
  cases h : rho[i]? with
  | none => rfl
  | some s => cases s <;> simp [lockS, set_same h]
@[simp] theorem unlock_some : unlock (some i) ⟨rho, cs⟩ = ⟨(match rho[i]? with | some s => rho.set i (unlockS s) | none => rho), cs⟩ := by
  unfold unlock
  simp only
  cases h : rho[i]? with
  | none => rfl
  | some s =>
    cases s with
    | lck b c => cases b <;> simp [unlockS, set_same h]
    | _ => simp [unlockS, set_same h]
def lockN (i : Nat) : Sl → Option (Option Nat)
  | .own _ => some (some i)
  | .ref _ => some (some i)
  | .lck _ _ => some none
  | _ => none
@[simp] theorem lockN_own : lockN i (.own c) = some (some i) := (rfl)
@[simp] theorem lockN_ref : lockN i (.ref c) = some (some i) := (rfl)
@[simp] theorem lockN_lck {b : Bool} : lockN i (.lck b c) = some none := (rfl)
@[simp] theorem lockOf_brw : lockOf ⟨rho, cs⟩ (.brw (.slot i)) = (rho[i]?).bind (lockN i) := by
  unfold lockOf
  simp only
  cases rho[i]? with
  | none => rfl
  | some s => cases s <;> rfl
end
end Iv
set_option linter.all false
set_option autoImplicit false
set_option maxRecDepth 100000
set_option maxHeartbeats 2000000
/-! Lx2: plain data: equality, membership, order. -/
namespace Iv
open PySem (Str Expr Stmt CmpOp Operator BoolOp PyData)
/-- None, whole numbers, texts, lists and tuples of these, at most n deep -/
def plain : Nat → D → Bool
  | _, .non => true
  | _, .int _ => true
  | _, .str s => PyData.strOk s
  | n + 1, .lst ds => ds.all (plain n)
  | n + 1, .tup ds => ds.all (plain n)
  | _, _ => false
@[simp] theorem plain_non {n : Nat} : plain n .non = true := by cases n <;> rfl
@[simp] theorem plain_int {n : Nat} {i : Int} : plain n (.int i) = true := by cases n <;> rfl
@[simp] theorem plain_str {n : Nat} {s : Str} : plain n (.str s) = PyData.strOk s := by cases n <;> rfl
@[simp] theorem plain_lst {n : Nat} {ds : List D} : plain (n + 1) (.lst ds) = ds.all (plain n) := (rfl)
@[simp] theorem plain_tup {n : Nat} {ds : List D} : plain (n + 1) (.tup ds) = ds.all (plain n) := (rfl)
@[simp] theorem plain_lst0 {ds : List D} : plain 0 (.lst ds) = false := (rfl)
@[simp] theorem plain_tup0 {ds : List D} : plain 0 (.tup ds) = false := (rfl)
@[simp] theorem plain_bl {n : Nat} {b : Bool} : plain n (.bl b) = false := by cases n <;> rfl
@[simp] theorem plain_cell {n m : Nat} : plain n (.cell m) = false := by cases n <;> rfl
@[simp] theorem plain_scr {n : Nat} {m} : plain n (.scr m) = false := by cases n <;> rfl
@[simp] theorem plain_obj {n : Nat} {c ns ds} : plain n (.obj c ns ds) = false := by cases n <;> rfl
theorem plain_py : ∀ (n : Nat) (d : D), plain n d = true → ∃ p, toPy d = some p ∧ p.canLay0 = true ∧ p.depth ≤ n := by
  intro n
  induction n with
  | zero =>
    intro d h
    cases d <;> simp at h
    · exact ⟨_, by simp only [toPy]; rfl, by simp only [PyData.canLay0], by simp [PyData.depth]⟩
    · exact ⟨_, by simp only [toPy]; rfl, by simp only [PyData.canLay0], by simp [PyData.depth]⟩
    · exact ⟨_, by simp only [toPy]; rfl, by simpa only [PyData.canLay0] using h, by simp [PyData.depth]⟩
  | succ n ih =>
    have many : ∀ ds : List D, ds.all (plain n) = true → ∃ ps, toPys ds = some ps ∧ PyData.canLayAll0 ps = true ∧ PyData.depthAll ps ≤ n := by
      intro ds
      induction ds with
      | nil => intro _; exact ⟨[], by simp only [toPys], by simp only [PyData.canLayAll0], by simp only [PyData.depthAll]; omega⟩
      | cons d ds ihd =>
        intro h
        simp only [List.all_cons, Bool.and_eq_true] at h
        obtain ⟨p, e1, c1, d1⟩ := ih d h.1
        obtain ⟨ps, e2, c2, d2⟩ := ihd h.2
        exact ⟨p :: ps, by simp only [toPys, e1, e2], by simp only [PyData.canLayAll0, c1, c2, Bool.and_self], by simp only [PyData.depthAll]; omega⟩
    intro d h
    cases d <;> simp only [plain_non, plain_bl, plain_int, plain_str, plain_lst, plain_tup, plain_obj, plain_cell, plain_scr, Bool.false_eq_true] at h
    · exact ⟨_, by simp only [toPy]; rfl, by simp only [PyData.canLay0], by simp [PyData.depth]⟩
    · exact ⟨_, by simp only [toPy]; rfl, by simp only [PyData.canLay0], by simp [PyData.depth]⟩
    · exact ⟨_, by simp only [toPy]; rfl, by simpa only [PyData.canLay0] using h, by simp [PyData.depth]⟩
    · obtain ⟨ps, e, c, dd⟩ := many _ h
      exact ⟨.list ps, by simp only [toPy, e, Option.map_some], by simpa only [PyData.canLay0] using c, by simp only [PyData.depth]; omega⟩
    · obtain ⟨ps, e, c, dd⟩ := many _ h
      exact ⟨.tuple ps, by simp only [toPy, e, Option.map_some], by simpa only [PyData.canLay0] using c, by simp only [PyData.depth]; omega⟩
theorem plain_pys {n : Nat} {ds : List D} (h : ds.all (plain n) = true) : ∃ ps, toPys ds = some ps ∧ PyData.canLayAll0 ps = true ∧ PyData.depthAll ps ≤ n := by
  obtain ⟨p, e, c, d⟩ := plain_py (n + 1) (.lst ds) (by simpa using h)
  simp only [toPy] at e
  obtain ⟨ps, e2, rfl⟩ := Option.map_eq_some_iff.mp e
  exact ⟨ps, e2, by simpa only [PyData.canLay0] using c, by simp only [PyData.depth] at d; omega⟩
/-- equal as data, equal as values -/
theorem plain_eqv : ∀ (n m : Nat) (d e : D) (p q : PyData), plain n d = true → plain m e = true → toPy d = some p → toPy e = some q → (PyData.eqv p q = true ↔ d = e) := by
  intro n
  induction n with
  | zero =>
    intro m d e p q h1 h2 e1 e2
    cases d <;> simp at h1 <;> simp only [toPy, Option.some.injEq] at e1 <;> subst e1 <;> cases e <;> simp only [toPy, Option.some.injEq, Option.map_eq_some_iff] at e2 <;> (try simp at h2) <;> (try (obtain ⟨_, _, rfl⟩ := e2)) <;> (try subst e2) <;> simp [PyData.eqv]
  | succ n ih =>
    have many : ∀ (ds es : List D) (ps qs : List PyData) (m : Nat), ds.all (plain n) = true → es.all (plain m) = true → toPys ds = some ps → toPys es = some qs → (PyData.eqvAll ps qs = true ↔ ds = es) := by
      intro ds
      induction ds with
      | nil =>
        intro es ps qs m _ _ e1 e2
        simp only [toPys, Option.some.injEq] at e1
        subst e1
        cases es with
        | nil => simp only [toPys, Option.some.injEq] at e2; subst e2; simp [PyData.eqvAll]
        | cons x es =>
          simp only [toPys] at e2
          split at e2
          · cases e2; simp [PyData.eqvAll]
          · cases e2
      | cons d ds ihd =>
        intro es ps qs m h1 h2 e1 e2
        simp only [toPys] at e1
        split at e1
        · rename_i p ps1 a1 a2
          cases e1
          cases es with
          | nil => simp only [toPys, Option.some.injEq] at e2; subst e2; simp [PyData.eqvAll]
          | cons x es =>
            simp only [toPys] at e2
            split at e2
            · rename_i q qs1 b1 b2
              cases e2
              simp only [List.all_cons, Bool.and_eq_true] at h1 h2
              simp only [PyData.eqvAll, Bool.and_eq_true, List.cons.injEq]
              rw [ih m d x p q h1.1 h2.1 a1 b1, ihd es ps1 qs1 m h1.2 h2.2 a2 b2]
            · cases e2
        · cases e1
    intro m d e p q h1 h2 e1 e2
    cases d <;> simp only [plain_non, plain_bl, plain_int, plain_str, plain_lst, plain_tup, plain_obj, plain_cell, plain_scr, Bool.false_eq_true] at h1
    case lst ds =>
      simp only [toPy] at e1
      obtain ⟨ps, a1, rfl⟩ := Option.map_eq_some_iff.mp e1
      cases e <;> simp only [toPy, Option.some.injEq, Option.map_eq_some_iff, reduceCtorEq] at e2 <;> (try (obtain ⟨_, _, rfl⟩ := e2)) <;> (try subst e2) <;> try simp [PyData.eqv]
      rename_i es qs a2
      cases m with
      | zero => simp at h2
      | succ m => exact many ds es ps qs m h1 (by simpa using h2) a1 a2
    case tup ds =>
      simp only [toPy] at e1
      obtain ⟨ps, a1, rfl⟩ := Option.map_eq_some_iff.mp e1
      cases e <;> simp only [toPy, Option.some.injEq, Option.map_eq_some_iff, reduceCtorEq] at e2 <;> (try (obtain ⟨_, _, rfl⟩ := e2)) <;> (try subst e2) <;> try simp [PyData.eqv]
      rename_i es qs a2
      cases m with
      | zero => simp at h2
      | succ m => exact many ds es ps qs m h1 (by simpa using h2) a1 a2
    all_goals
      simp only [toPy, Option.some.injEq] at e1
      subst e1
      cases e <;> simp only [toPy, Option.some.injEq, Option.map_eq_some_iff, reduceCtorEq] at e2 <;> (try simp at h2) <;> (try (obtain ⟨_, _, rfl⟩ := e2)) <;> (try subst e2) <;> simp [PyData.eqv]
open Classical in
theorem eqD_plain {n m : Nat} {d e : D} (h1 : plain n d = true) (h2 : plain m e = true) (hn : n ≤ 64) (hm : m ≤ 64) : eqD d e = some (decide (d = e)) := by
  obtain ⟨p, e1, c1, d1⟩ := plain_py n d h1
  obtain ⟨q, e2, c2, d2⟩ := plain_py m e h2
  unfold eqD
  rw [e1, e2]
  simp only [shp, c1, c2, Bool.true_and]
  rw [if_pos (by simp; omega)]
  congr 1
  rw [Bool.eq_iff_iff, plain_eqv n m d e p q h1 h2 e1 e2, decide_eq_true_iff]
open Classical in
theorem inD_plain {n m : Nat} {d : D} {es : List D} (h1 : plain n d = true) (h2 : es.all (plain m) = true) (hn : n ≤ 64) (hm : m ≤ 63) : inD d es = some (decide (d ∈ es)) := by
  obtain ⟨p, e1, c1, d1⟩ := plain_py n d h1
  obtain ⟨qs, e2, c2, d2⟩ := plain_pys h2
  unfold inD
  rw [e1, e2]
  simp only [shp, c1, Bool.true_and]
  rw [if_pos (by
    rw [Bool.and_eq_true, Bool.and_eq_true, decide_eq_true_iff, decide_eq_true_iff]
    refine ⟨by omega, by simpa only [PyData.canLay0] using c2, ?_⟩
    simp only [PyData.depth]
    omega)]
  congr 1
  have gen : ∀ (es : List D) (qs : List PyData), es.all (plain m) = true → toPys es = some qs → ((qs.any fun z => PyData.eqv z p) = true ↔ d ∈ es) := by
    intro es
    induction es with
    | nil => intro qs _ h; simp only [toPys, Option.some.injEq] at h; subst h; simp
    | cons x es ih =>
      intro qs h e
      simp only [toPys] at e
      split at e
      · rename_i q qs1 a1 a2
        cases e
        simp only [List.all_cons, Bool.and_eq_true] at h
        simp only [List.any_cons, Bool.or_eq_true, List.mem_cons]
        rw [ih qs1 h.2 a2, plain_eqv m n x d q p h.1 h1 a1 e1]
        exact or_congr_left ⟨Eq.symm, Eq.symm⟩
      · cases e
  rw [Bool.eq_iff_iff, gen es qs h2 e2, decide_eq_true_iff]
theorem inD_iff {n m : Nat} {d : D} {es : List D} (h1 : plain n d = true) (h2 : es.all (plain m) = true) (hn : n ≤ 64) (hm : m ≤ 63) : ∃ b, inD d es = some b ∧ (b = true ↔ d ∈ es) := by
  classical
  exact ⟨_, inD_plain h1 h2 hn hm, by simp⟩
theorem eqD_iff {n m : Nat} {d e : D} (h1 : plain n d = true) (h2 : plain m e = true) (hn : n ≤ 64) (hm : m ≤ 64) : ∃ b, eqD d e = some b ∧ (b = true ↔ d = e) := by
  classical
  exact ⟨_, eqD_plain h1 h2 hn hm, by simp⟩
@[simp] theorem eqD_bl {a b : Bool} : eqD (.bl a) (.bl b) = some (a == b) := by
  unfold eqD
  simp only [toPy]
  rw [if_pos (by rfl)]
  rfl
theorem eqD_str {a b : Str} (h1 : PyData.strOk a = true) (h2 : PyData.strOk b = true) : eqD (.str a) (.str b) = some (a == b) := by
  unfold eqD
  simp only [toPy]
  rw [if_pos (by simp [shp, PyData.canLay0, PyData.depth, h1, h2])]
  congr 1
/-- a tuple of whole numbers -/
abbrev ti (is : List Int) : D := .tup (is.map .int)
theorem plain_ints {n : Nat} (is : List Int) : (is.map D.int).all (plain n) = true := by
  rw [List.all_eq_true]
  intro x hx
  obtain ⟨i, _, rfl⟩ := List.mem_map.mp hx
  simp
@[simp] theorem plain_ti {n : Nat} {is : List Int} : plain (n + 1) (ti is) = true := plain_ints is
theorem ints_inj {a b : List Int} : a.map D.int = b.map D.int ↔ a = b := by
  constructor
  · intro h
    have := congrArg (List.map fun d => match d with | D.int i => i | _ => 0) h
    rw [List.map_map, List.map_map] at this
    have e : ((fun d => match d with | D.int i => i | _ => 0) ∘ D.int) = (id : Int → Int) := rfl
    rw [e, List.map_id, List.map_id] at this
    exact this
  · intro h; rw [h]
theorem ti_inj {a b : List Int} : ti a = ti b ↔ a = b := by
  simp only [ti, D.tup.injEq]
  exact ints_inj
theorem eqD_ti {a b : List Int} : eqD (ti a) (ti b) = some (decide (a = b)) := by
  rw [eqD_plain (n := 1) (m := 1) plain_ti plain_ti (by omega) (by omega)]
  congr 1
  exact decide_eq_decide.mpr ti_inj
theorem inD_ti {a : List Int} {bs : List (List Int)} : inD (ti a) (bs.map ti) = some (decide (a ∈ bs)) := by
  rw [inD_plain (n := 1) (m := 1) plain_ti (by
    rw [List.all_eq_true]
    intro x hx
    obtain ⟨i, _, rfl⟩ := List.mem_map.mp hx
    exact plain_ti) (by omega) (by omega)]
  congr 1
  refine decide_eq_decide.mpr ⟨fun h => ?_, fun h => List.mem_map_of_mem h⟩
  obtain ⟨b, hb, e⟩ := List.mem_map.mp h
  rw [← ti_inj.mp e]
  exact hb
theorem inD_ints {a : Int} {bs : List Int} : inD (.int a) (bs.map .int) = some (decide (a ∈ bs)) := by
  rw [inD_plain (n := 1) (m := 1) plain_int (plain_ints bs) (by omega) (by omega)]
  congr 1
  refine decide_eq_decide.mpr ⟨fun h => ?_, fun h => List.mem_map_of_mem h⟩
  obtain ⟨b, hb, e⟩ := List.mem_map.mp h
  cases e
  exact hb
/-! ### order -/
theorem leP_trans {a b c : PyData} (h1 : leP a b = true) (h2 : leP b c = true) : leP a c = true := by
  unfold leP PySem.W.dataLt at *
  simp only [Bool.not_eq_true'] at *
  cases h : PyProof.Rows.lexLt PyProof.Rows.itemOrd (PySem.W.keyToks c) (PySem.W.keyToks a) with
  | false => rfl
  | true =>
    rcases PyProof.Rows.lex_negTrans _ (PySem.W.keyToks b) _ h with z | z
    · rw [z] at h2; cases h2
    · rw [z] at h1; cases h1
theorem leP_total (a b : PyData) : (leP a b || leP b a) = true := by
  unfold leP PySem.W.dataLt
  cases h : PyProof.Rows.lexLt PyProof.Rows.itemOrd (PySem.W.keyToks b) (PySem.W.keyToks a) with
  | false => rfl
  | true =>
    cases h2 : PyProof.Rows.lexLt PyProof.Rows.itemOrd (PySem.W.keyToks a) (PySem.W.keyToks b) with
    | false => rfl
    | true =>
      have := PyProof.Rows.lex_trans _ _ _ h h2
      rw [PyProof.Rows.lex_irrefl] at this
      cases this
theorem leD_trans (a b c : D) (h1 : leD a b = true) (h2 : leD b c = true) : leD a c = true := leP_trans h1 h2
theorem leD_total (a b : D) : (leD a b || leD b a) = true := leP_total _ _
theorem leP_toks {a b : PyData} (h1 : leP a b = true) (h2 : leP b a = true) : PySem.W.keyToks a = PySem.W.keyToks b := by
  unfold leP PySem.W.dataLt at *
  simp only [Bool.not_eq_true'] at *
  exact (PyProof.Rows.lex_total _ _ h1 h2).symm
theorem toPys_ints (is : List Int) : toPys (is.map .int) = some (is.map .int) := by
  induction is with
  | nil => simp only [List.map_nil, toPys]
  | cons i is ih => simp only [List.map_cons, toPys, toPy, ih]
theorem toPy_ti (is : List Int) : toPy (ti is) = some (.tuple (is.map .int)) := by
  simp only [ti, toPy, toPys_ints, Option.map_some]
theorem py_ti (is : List Int) : py (ti is) = .tuple (is.map .int) := by
  unfold py
  rw [toPy_ti]; rfl
theorem toks_ints : ∀ (a b : List Int), PySem.W.keyToksAll (a.map .int) = PySem.W.keyToksAll (b.map .int) → a = b
  | [], [], _ => rfl
  | [], b :: bs, h => by simp [PySem.W.keyToksAll] at h
  | a :: as, [], h => by simp [PySem.W.keyToksAll] at h
  | a :: as, b :: bs, h => by
    simp only [List.map_cons, PySem.W.keyToksAll, PySem.W.keyToks, List.cons_append, List.nil_append, List.cons.injEq, Sum.inl.injEq, true_and] at h
    rw [h.1, toks_ints as bs h.2]
theorem leD_ti_anti {a b : List Int} (h1 : leD (ti a) (ti b) = true) (h2 : leD (ti b) (ti a) = true) : a = b := by
  unfold leD at *
  rw [py_ti, py_ti] at *
  have := leP_toks h1 h2
  simp only [PySem.W.keyToks] at this
  exact toks_ints _ _ this
theorem toPys_tis (bs : List (List Int)) : toPys (bs.map ti) = some (bs.map fun is => .tuple (is.map .int)) := by
  induction bs with
  | nil => simp only [List.map_nil, toPys]
  | cons i is ih => simp only [List.map_cons, toPys, toPy_ti, ih]
theorem alike_ints : ∀ (a b : List Int), PySem.W.alikeAll (a.map .int) (b.map .int) = true
  | [], b => by cases b <;> rfl
  | a :: as, [] => rfl
  | a :: as, b :: bs => by simp only [List.map_cons, PySem.W.alikeAll, PySem.W.alike, Bool.true_and]; exact alike_ints as bs
theorem depth_ints (a : List Int) : PyData.depthAll (a.map PyData.int) = 0 := by
  induction a with
  | nil => simp only [List.map_nil, PyData.depthAll]
  | cons a as ih => simp only [List.map_cons, PyData.depthAll, PyData.depth, ih]; rfl
/-- sorting tuples of whole numbers: all of them nonempty, or one alone -/
theorem sortD_ti {bs : List (List Int)} (h : (∀ b ∈ bs, b ≠ []) ∨ bs.length ≤ 1) (hl : bs.length ≤ line) : sortD (bs.map ti) = some ((bs.map ti).mergeSort leD) := by
  unfold sortD
  rw [toPys_tis]
  simp only
  rw [if_pos]
  rw [Bool.and_eq_true]
  refine ⟨?_, by simpa using hl⟩
  unfold sortable
  simp only [Bool.and_eq_true]
  refine ⟨⟨?_, ?_⟩, ?_⟩
  · rw [List.all_eq_true]
    intro x hx
    rw [List.all_eq_true]
    intro y hy
    obtain ⟨a, _, rfl⟩ := List.mem_map.mp hx
    obtain ⟨b, _, rfl⟩ := List.mem_map.mp hy
    simp only [PySem.W.alike]
    exact alike_ints a b
  · rw [List.all_eq_true]
    intro x hx
    obtain ⟨a, _, rfl⟩ := List.mem_map.mp hx
    simp only [PyData.depth, depth_ints]
    rfl
  · simp only [Bool.or_eq_true, Bool.and_eq_true, decide_eq_true_eq]
    rcases h with h | h
    · left; right
      rw [List.all_eq_true]
      intro x hx
      obtain ⟨a, ha, rfl⟩ := List.mem_map.mp hx
      have := h a ha
      cases a with
      | nil => exact absurd rfl this
      | cons a as => rfl
    · left; left
      refine ⟨by simpa using h, ?_⟩
      rw [List.all_eq_true]
      intro x hx
      obtain ⟨a, ha, rfl⟩ := List.mem_map.mp hx
      rfl
/-- sorted lists of the same things -/
theorem sort_same {as bs : List D} (hp : as.Perm bs) (ha : ∀ a ∈ as, ∀ b ∈ as, leD a b = true → leD b a = true → a = b) : as.mergeSort leD = bs.mergeSort leD := by
  refine List.Perm.eq_of_pairwise (le := fun a b => leD a b = true) (fun a b h1 h2 h3 h4 => ha a ((List.mergeSort_perm as leD).mem_iff.mp h1) b (hp.mem_iff.mpr ((List.mergeSort_perm bs leD).mem_iff.mp h2)) h3 h4) (List.pairwise_mergeSort leD_trans leD_total as) (List.pairwise_mergeSort leD_trans leD_total bs) (((List.mergeSort_perm as leD).trans hp).trans (List.mergeSort_perm bs leD).symm)
end Iv
set_option linter.all false
set_option maxRecDepth 100000
/-! bodies that many laws share, by the places of what they call -/
namespace Iv.Lib
open PySem (Str)
/-- return [cells, 0, 0, 0,  -/
def law_store_3 : Ss := (.cons (.ret (.lst (.cons (.mv 1) (.cons (.int 0) (.cons (.int 0) (.cons (.int 0) (.cons (.int 0) (.cons (.nm 2) .nil))))))))
    .nil)
/-- cells.append(size) -/
def law_store_2 : Ss := (.cons (.expr (.meth .append (.nm 1) (.cons (.nm 4) .nil)))
    (.cons (.asg (.nm 2) true (.bin .Mod (.b1 .int (.bin .Add (.bin .Add (.bin .Mult (.nm 2) (.int 1000003)) (.nm 4)) (.int 11))) (.int 2305843009213693951)))
    .nil))
/-- size = abs(int(cell)) %  -/
def law_store_1 : Ss := (.cons (.asg (.nm 4) true (.bin .Mod (.b1 .abs (.b1 .int (.nm 3))) (.bin .Pow (.bin .Pow (.int 10) (.int 60)) (.int 5))))
    (.cons (.ite (.cmp .Lt (.nm 3) (.int 0)) (.cons (.asg (.nm 4) true (.bin .Sub (.int 0) (.nm 4)))
    .nil) .nil) law_store_2))
def law_store : Ss := (.cons (.asg (.nm 1) false (.lst .nil))
    (.cons (.asg (.nm 2) true (.int 7))
    (.cons (.for_ (.nm 3) (.seq (.nm 0)) law_store_1) law_store_3)))
/-- store[3] = 2 -/
def law_next_1 : Ss := (.cons (.setSub (.nm 0) (.int 3) (.int 2))
    .nil)
def law_next : Ss := (.cons (.setSub (.nm 0) (.int 4) (.int 0))
    (.cons (.ite (.cmp .GtE (.sub (.nm 0) (.int 1)) (.b1 .len (.sub (.nm 0) (.int 0)))) (.cons (.setSub (.nm 0) (.int 2) (.sub (.nm 0) (.int 5)))
    (.cons (.setSub (.nm 0) (.int 3) (.int 3))
    (.cons .retN
    .nil))) .nil)
    (.cons (.asg (.nm 1) true (.sub (.sub (.nm 0) (.int 0)) (.sub (.nm 0) (.int 1))))
    (.cons (.setSub (.nm 0) (.int 1) (.bin .Add (.sub (.nm 0) (.int 1)) (.int 1)))
    (.cons (.ite (.cmp .GtE (.b1 .abs (.nm 1)) (.bin .Pow (.int 10) (.int 18))) (.cons (.setSub (.nm 0) (.int 2) (.b1 .abs (.nm 1)))
    (.cons (.setSub (.nm 0) (.int 3) (.int 1))
    (.cons .retN
    .nil))) .nil)
    (.cons (.setSub (.nm 0) (.int 2) (.bin .Mult (.int 2) (.nm 1)))
    (.cons (.ite (.cmp .Lt (.nm 1) (.int 0)) (.cons (.setSub (.nm 0) (.int 2) (.bin .Sub (.bin .Sub (.int 0) (.bin .Mult (.int 2) (.nm 1))) (.int 1)))
    .nil) .nil) law_next_1)))))))
def law_mix : Ss := (.cons (.asg (.nm 2) true (.bin .Mod (.b1 .int (.bin .Add (.bin .Mult (.bin .Add (.nm 0) (.int 1)) (.int 6364136223846793005)) (.bin .Mult (.bin .Add (.nm 1) (.int 1)) (.int 1442695040888963407)))) (.int 2305843009213693951)))
    (.cons (.asg (.nm 2) true (.bin .Mod (.b1 .int (.bin .Add (.bin .Add (.bin .Mult (.nm 2) (.nm 2)) (.bin .Mult (.nm 1) (.int 1000003))) (.int 77))) (.int 18446744073709551557)))
    (.cons (.asg (.nm 2) true (.bin .Mod (.b1 .int (.bin .Add (.bin .Add (.bin .Mult (.nm 2) (.nm 2)) (.bin .Mult (.nm 2) (.int 40503))) (.nm 0))) (.int 2305843009213693951)))
    (.cons (.ret (.bin .FloorDiv (.nm 2) (.int 65537)))
    .nil))))
/-- return int(_law_mix(stor -/
def law_take_3 (i_law_mix i_law_next : Nat) : Ss := (.cons (.ret (.bin .Mod (.b1 .int (.call i_law_mix (.cons (.sub (.nm 0) (.int 2)) (.cons (.nm 3) .nil)) [])) (.nm 1)))
    .nil)
/-- if store[3] == 1: -/
def law_take_2 (i_law_mix i_law_next : Nat) : Ss := (.cons (.ite (.cmp .Eq (.sub (.nm 0) (.int 3)) (.int 1)) (.cons (.asg (.nm 2) true (.bin .Mod (.b1 .int (.sub (.nm 0) (.int 2))) (.nm 1)))
    (.cons (.setSub (.nm 0) (.int 2) (.bin .FloorDiv (.sub (.nm 0) (.int 2)) (.nm 1)))
    (.cons (.ret (.nm 2))
    .nil))) .nil)
    (.cons (.setSub (.nm 0) (.int 4) (.bin .Add (.sub (.nm 0) (.int 4)) (.int 1)))
    (.cons (.asg (.nm 3) true (.sub (.nm 0) (.int 4)))
    (.cons (.ite (.cmp .Eq (.sub (.nm 0) (.int 3)) (.int 2)) (.cons (.asg (.nm 3) true (.bin .Add (.nm 3) (.bin .Mult (.int 64) (.sub (.nm 0) (.int 1)))))
    .nil) .nil) (law_take_3 i_law_mix i_law_next)))))
/-- if store[3] == 0: -/
def law_take_1 (i_law_mix i_law_next : Nat) : Ss := (.cons (.ite (.cmp .Eq (.sub (.nm 0) (.int 3)) (.int 0)) (.cons (.expr (.call i_law_next (.cons (.rf 0) .nil) []))
    .nil) .nil) (law_take_2 i_law_mix i_law_next))
def law_take (i_law_mix i_law_next : Nat) : Ss := (.cons (.ite (.cmp .Lt (.nm 1) (.int 2)) (.cons (.ret (.int 0))
    .nil) .nil)
    (.cons (.ite (.bop .Or (.cons (.bop .And (.cons (.cmp .Eq (.sub (.nm 0) (.int 3)) (.int 1)) (.cons (.cmp .Eq (.sub (.nm 0) (.int 2)) (.int 0)) .nil))) (.cons (.bop .And (.cons (.cmp .Eq (.sub (.nm 0) (.int 3)) (.int 2)) (.cons (.cmp .GtE (.sub (.nm 0) (.int 4)) (.int 6)) .nil))) .nil))) (.cons (.setSub (.nm 0) (.int 3) (.int 0))
    .nil) .nil) (law_take_1 i_law_mix i_law_next)))
def law_pick (i_law_take : Nat) : Ss := (.cons (.ret (.sub (.nm 1) (.call i_law_take (.cons (.rf 0) (.cons (.b1 .len (.nm 1)) .nil)) [])))
    .nil)
/-- return value -/
def law_figures_6 (i_law_take : Nat) : Ss := (.cons (.ret (.nm 6))
    .nil)
/-- if _law_take(store, 2) = -/
def law_figures_5 (i_law_take : Nat) : Ss := (.cons (.ite (.cmp .Eq (.call i_law_take (.cons (.rf 0) (.cons (.int 2) .nil)) []) (.int 1)) (.cons (.asg (.nm 6) true (.bin .Sub (.int 0) (.nm 6)))
    .nil) .nil) (law_figures_6 i_law_take))
/-- value = least + int(valu -/
def law_figures_4 (i_law_take : Nat) : Ss := (.cons (.asg (.nm 6) true (.bin .Add (.nm 4) (.bin .Mod (.b1 .int (.nm 6)) (.bin .Sub (.nm 2) (.nm 4)))))
    (.cons (.ite (.cmp .Eq (.nm 5) (.int 0)) (.cons (.asg (.nm 6) true (.bin .Sub (.nm 2) (.int 1)))
    .nil) .nil) (law_figures_5 i_law_take)))
/-- value = value * 10000000 -/
def law_figures_3 (i_law_take : Nat) : Ss := (.cons (.asg (.nm 6) true (.bin .Add (.bin .Mult (.nm 6) (.int 1000000000)) (.call i_law_take (.cons (.rf 0) (.cons (.int 1000000000) .nil)) [])))
    .nil)
/-- least = edge // 10 -/
def law_figures_2 (i_law_take : Nat) : Ss := (.cons (.asg (.nm 4) true (.bin .FloorDiv (.nm 2) (.int 10)))
    (.cons (.asg (.nm 5) true (.call i_law_take (.cons (.rf 0) (.cons (.int 4) .nil)) []))
    (.cons (.asg (.nm 6) true (.int 0))
    (.cons (.ite (.cmp .Gt (.nm 5) (.int 1)) (.cons (.for_ (.nm 3) (.rng1 (.bin .Add (.bin .FloorDiv (.nm 1) (.int 9)) (.int 1))) (law_figures_3 i_law_take))
    .nil) .nil) (law_figures_4 i_law_take)))))
/-- edge = edge * 10 -/
def law_figures_1 (i_law_take : Nat) : Ss := (.cons (.asg (.nm 2) true (.bin .Mult (.nm 2) (.int 10)))
    .nil)
def law_figures (i_law_take : Nat) : Ss := (.cons (.asg (.nm 2) true (.int 1))
    (.cons (.for_ (.nm 3) (.rng1 (.nm 1)) (law_figures_1 i_law_take)) (law_figures_2 i_law_take)))
def law_low (i_law_pick : Nat) : Ss := (.cons (.ret (.call i_law_pick (.cons (.rf 0) (.cons (.lst (.cons (.int 0) (.cons (.int 1) (.cons (.int 2) (.cons (.int 3) (.cons (.neg (.int 1)) (.cons (.int 4) (.cons (.int 5) (.cons (.neg (.int 2)) (.cons (.int 7) (.cons (.int 9) (.cons (.neg (.int 3)) (.cons (.int 12) .nil))))))))))))) .nil)) []))
    .nil)
def law_like : Ss := (.cons (.ite (.cmp .Is (.nm 1) .non) (.cons (.ret (.cmp .Is (.nm 0) .non))
    .nil) .nil)
    (.cons (.ite (.isi (.nm 1) [.bool]) (.cons (.ret (.bop .And (.cons (.isi (.nm 0) [.bool]) (.cons (.cmp .Eq (.nm 0) (.nm 1)) .nil))))
    .nil) .nil)
    (.cons (.ite (.isi (.nm 1) [.int]) (.cons (.ret (.bop .And (.cons (.isi (.nm 0) [.int]) (.cons (.not (.isi (.nm 0) [.bool])) (.cons (.cmp .Eq (.nm 0) (.nm 1)) .nil)))))
    .nil) .nil)
    (.cons (.ite (.isi (.nm 1) [.str]) (.cons (.ret (.bop .And (.cons (.isi (.nm 0) [.str]) (.cons (.cmp .Eq (.nm 0) (.nm 1)) .nil))))
    .nil) .nil)
    (.cons (.ite (.isi (.nm 1) [.list]) (.cons (.ret (.bop .And (.cons (.isi (.nm 0) [.list]) (.cons (.cmp .Eq (.b1 .len (.nm 0)) (.b1 .len (.nm 1))) .nil))))
    .nil) .nil)
    (.cons (.ret (.bop .And (.cons (.isi (.nm 1) [.tuple]) (.cons (.isi (.nm 0) [.tuple]) (.cons (.cmp .Eq (.b1 .len (.nm 0)) (.b1 .len (.nm 1))) .nil)))))
    .nil))))))
/-- return False -/
def law_same_5 (i_law_like : Nat) : Ss := (.cons (.ret (.bl false))
    .nil)
/-- if len(below) == 0: -/
def law_same_4 (i_law_like : Nat) : Ss := (.cons (.ite (.cmp .Eq (.b1 .len (.nm 4)) (.int 0)) (.cons (.ret (.bl true))
    .nil) .nil)
    (.cons (.asg (.nm 2) true (.b1 .list (.nm 4)))
    .nil))
/-- below.append((actual[k], -/
def law_same_3 (i_law_like : Nat) : Ss := (.cons (.expr (.meth .append (.nm 4) (.cons (.tup (.cons (.sub (.nm 5) (.nm 7)) (.cons (.sub (.nm 6) (.nm 7)) .nil))) .nil)))
    .nil)
/-- if not _law_like(actual, -/
def law_same_2 (i_law_like : Nat) : Ss := (.cons (.ite (.not (.call i_law_like (.cons (.nm 5) (.cons (.nm 6) .nil)) [])) (.cons (.ret (.bl false))
    .nil) .nil)
    (.cons (.ite (.bop .Or (.cons (.isi (.nm 6) [.list]) (.cons (.isi (.nm 6) [.tuple]) .nil))) (.cons (.for_ (.nm 7) (.rng1 (.b1 .len (.nm 6))) (law_same_3 i_law_like))
    .nil) .nil)
    .nil))
/-- below = [] -/
def law_same_1 (i_law_like : Nat) : Ss := (.cons (.asg (.nm 4) false (.lst .nil))
    (.cons (.for_ (.tup [5, 6]) (.seq (.nm 2)) (law_same_2 i_law_like)) (law_same_4 i_law_like)))
def law_same (i_law_like : Nat) : Ss := (.cons (.asg (.nm 2) true (.lst (.cons (.tup (.cons (.nm 0) (.cons (.nm 1) .nil))) .nil)))
    (.cons (.for_ (.nm 3) (.rng1 (.int 64)) (law_same_1 i_law_like)) (law_same_5 i_law_like)))
/-- return value -/
def law_vast_3 (i_law_take : Nat) : Ss := (.cons (.ret (.nm 1))
    .nil)
/-- value = value + _law_tak -/
def law_vast_2 (i_law_take : Nat) : Ss := (.cons (.asg (.nm 1) true (.bin .Add (.nm 1) (.call i_law_take (.cons (.rf 0) (.cons (.int 9) .nil)) [])))
    (.cons (.ite (.cmp .Eq (.call i_law_take (.cons (.rf 0) (.cons (.int 2) .nil)) []) (.int 1)) (.cons (.asg (.nm 1) true (.bin .Sub (.int 0) (.nm 1)))
    .nil) .nil) (law_vast_3 i_law_take)))
/-- value = value * (10 ** 6 -/
def law_vast_1 (i_law_take : Nat) : Ss := (.cons (.asg (.nm 1) true (.bin .Mult (.nm 1) (.bin .Pow (.bin .Pow (.int 10) (.int 60)) (.int 6))))
    .nil)
def law_vast (i_law_take : Nat) : Ss := (.cons (.asg (.nm 1) true (.bin .Add (.int 1) (.call i_law_take (.cons (.rf 0) (.cons (.int 9) .nil)) [])))
    (.cons (.for_ (.nm 2) (.rng1 (.bin .Add (.int 1) (.call i_law_take (.cons (.rf 0) (.cons (.int 15) .nil)) []))) (law_vast_1 i_law_take)) (law_vast_2 i_law_take)))
/-- return told -/
def law_pool_6 (i_law_figures i_law_low i_law_take : Nat) : Ss := (.cons (.ret (.mv 2))
    .nil)
/-- value = value + gap -/
def law_pool_5 (i_law_figures i_law_low i_law_take : Nat) : Ss := (.cons (.asg (.nm 1) true (.bin .Add (.nm 1) (.nm 5)))
    (.cons (.expr (.meth .append (.nm 2) (.cons (.nm 1) .nil)))
    .nil))
/-- if way == 7: -/
def law_pool_4 (i_law_figures i_law_low i_law_take : Nat) : Ss := (.cons (.ite (.cmp .Eq (.nm 4) (.int 7)) (.cons (.asg (.nm 5) true (.b1 .abs (.call i_law_figures (.cons (.rf 0) (.cons (.bin .Add (.int 1) (.call i_law_take (.cons (.rf 0) (.cons (.int 20) .nil)) [])) .nil)) [])))
    .nil) .nil) (law_pool_5 i_law_figures i_law_low i_law_take))
/-- if way == 6: -/
def law_pool_3 (i_law_figures i_law_low i_law_take : Nat) : Ss := (.cons (.ite (.cmp .Eq (.nm 4) (.int 6)) (.cons (.asg (.nm 5) true (.bin .Add (.int 2) (.call i_law_take (.cons (.rf 0) (.cons (.int 9) .nil)) [])))
    .nil) .nil) (law_pool_4 i_law_figures i_law_low i_law_take))
/-- way = _law_take(store, 8 -/
def law_pool_2 (i_law_figures i_law_low i_law_take : Nat) : Ss := (.cons (.asg (.nm 4) true (.call i_law_take (.cons (.rf 0) (.cons (.int 8) .nil)) []))
    (.cons (.asg (.nm 5) true (.int 1))
    (.cons (.ite (.bop .Or (.cons (.cmp .Eq (.nm 4) (.int 4)) (.cons (.cmp .Eq (.nm 4) (.int 5)) .nil))) (.cons (.asg (.nm 5) true (.int 2))
    .nil) .nil) (law_pool_3 i_law_figures i_law_low i_law_take))))
/-- told = [value] -/
def law_pool_1 (i_law_figures i_law_low i_law_take : Nat) : Ss := (.cons (.asg (.nm 2) false (.lst (.cons (.nm 1) .nil)))
    (.cons (.for_ (.nm 3) (.rng1 (.bin .Add (.int 1) (.call i_law_take (.cons (.rf 0) (.cons (.int 3) .nil)) []))) (law_pool_2 i_law_figures i_law_low i_law_take)) (law_pool_6 i_law_figures i_law_low i_law_take)))
def law_pool (i_law_figures i_law_low i_law_take : Nat) : Ss := (.cons (.asg (.nm 1) true (.call i_law_low (.cons (.rf 0) .nil) []))
    (.cons (.ite (.cmp .Eq (.call i_law_take (.cons (.rf 0) (.cons (.int 16) .nil)) []) (.int 0)) (.cons (.asg (.nm 1) true (.call i_law_figures (.cons (.rf 0) (.cons (.bin .Add (.int 2) (.call i_law_take (.cons (.rf 0) (.cons (.int 30) .nil)) [])) .nil)) []))
    .nil) .nil) (law_pool_1 i_law_figures i_law_low i_law_take)))
end Iv.Lib
set_option linter.all false
set_option autoImplicit false
set_option maxRecDepth 100000
set_option maxHeartbeats 2000000
/-! Lw3: the law's own store of draws. -/
namespace Iv
open PySem (Str Expr Stmt CmpOp Operator BoolOp PyData)
theorem mulOk_of {i j : Int} (a b : Nat) (h1 : i.natAbs < 2 ^ a) (h2 : j.natAbs < 2 ^ b) (h : a + b ≤ 1000000) (ha : 0 < a) (hb : 0 < b) : mulOk i j = true := by
  unfold mulOk
  have l1 : i.natAbs.log2 < a := by
    by_cases z : i.natAbs = 0
    · rw [z]; simpa using ha
    · exact (Nat.log2_lt z).mpr h1
  have l2 : j.natAbs.log2 < b := by
    by_cases z : j.natAbs = 0
    · rw [z]; simpa using hb
    · exact (Nat.log2_lt z).mpr h2
  exact decide_eq_true (by omega)
/-- at most a numeral each -/
theorem mulOk_le {i j : Int} (A B : Nat) (h1 : i.natAbs ≤ A) (h2 : j.natAbs ≤ B) (h : A.log2 + B.log2 < 1000000) : mulOk i j = true := by
  unfold mulOk
  have m : ∀ {a b : Nat}, a ≤ b → a.log2 ≤ b.log2 := by
    intro a b hab
    by_cases z : a = 0
    · rw [z]; simp
    · by_cases z2 : b = 0
      · omega
      · have h1 : 2 ^ a.log2 ≤ a := Nat.log2_self_le z
        have h2 : b < 2 ^ (b.log2 + 1) := Nat.lt_log2_self
        have h3 : 2 ^ a.log2 < 2 ^ (b.log2 + 1) := by omega
        have := (Nat.pow_lt_pow_iff_right (by decide : 1 < 2)).mp h3
        omega
  exact decide_eq_true (by have := m h1; have := m h2; omega)
abbrev big : Nat := 2 ^ 1000
theorem big1 : 1000000000000000000000000000000 ≤ big := by decide +kernel
/-- the store of draws, with n draws left to count -/
structure St (n : Nat) (c : C) where
  cells : List Int
  i : Int
  v : Int
  m : Int
  t : Int
  s : Int
  eq : c = .lst [.lst (cells.map D.int), .int i, .int v, .int m, .int t, .int s]
  hc : ∀ x ∈ cells, x.natAbs < big
  hl : cells.length ≤ 63
  i0 : 0 ≤ i
  i1 : i ≤ cells.length
  v0 : 0 ≤ v
  v1 : v.natAbs ≤ 4 * big
  m0 : m = 0 ∨ m = 1 ∨ m = 2 ∨ m = 3
  t0 : 0 ≤ t
  t1 : t.natAbs + n ≤ big
  s0 : 0 ≤ s
  s1 : s < 2305843009213693951
def StOk (n : Nat) (c : C) : Prop := Nonempty (St n c)
theorem StOk.le {n m : Nat} {c : C} (h : StOk n c) (l : m ≤ n) : StOk m c := by
  obtain ⟨s⟩ := h
  exact ⟨⟨s.cells, s.i, s.v, s.m, s.t, s.s, s.eq, s.hc, s.hl, s.i0, s.i1, s.v0, s.v1, s.m0, s.t0, by have := s.t1; omega, s.s0, s.s1⟩⟩
section
variable {p : Prog} {k : Nat} {cs : List Inst}
theorem mix_sp {i : Nat} {a b : Int} (hF : p.fns[i]? = some ⟨2, 3, Lib.law_mix⟩) (ha : a.natAbs ≤ 8 * big) (hb : b.natAbs ≤ 8 * big) :
    Cl (run p (k + 2)) i [.v (.int a), .v (.int b)] cs fun r outs cs' => outs = [] ∧ cs' = cs ∧ ∃ v : Int, r = .val (.int v) ∧ 0 ≤ v ∧ v < 2305843009213693951 := by
  refine Cl_fn hF rfl ?_
  simp [Lib.law_mix]
  have hb1 := big1
  generalize hx : ((a + 1) * 6364136223846793005 + (b + 1) * 1442695040888963407) % 2305843009213693951 = x
  have bx : x.natAbs ≤ 2305843009213693951 := by omega
  generalize hy : (x * x + b * 1000003 + 77) % 18446744073709551557 = y
  have by' : y.natAbs ≤ 18446744073709551557 := by omega
  refine ⟨mulOk_le (9 * big) 6364136223846793005 (by omega) (by decide) (by decide +kernel), mulOk_le (9 * big) 1442695040888963407 (by omega) (by decide) (by decide +kernel), mulOk_le _ _ bx bx (by decide +kernel), mulOk_le (9 * big) 1000003 (by omega) (by decide) (by decide +kernel), mulOk_le _ _ by' by' (by decide +kernel), mulOk_le _ 40503 by' (by decide) (by decide +kernel), fdOk_of (by decide), ?_⟩
  constructor <;> omega
theorem next_sp {i n : Nat} {c : C} (hF : p.fns[i]? = some ⟨1, 2, Lib.law_next⟩) (h : StOk n c) :
    Cl (run p (k + 2)) i [.r c] cs fun r outs cs' => r = .val .non ∧ cs' = cs ∧ ∃ c', outs = [c'] ∧ ∃ s : St n c', s.m ≠ 0 := by
  obtain ⟨s⟩ := h
  obtain ⟨cells, ii, v, m, t, sd, rfl, hc, hl, i0, i1, v0, v1, m0, t0, t1, s0, s1⟩ := s
  have hb1 := big1
  refine Cl_fn hF rfl ?_
  simp [Lib.law_next, Lib.law_next_1, i0]
  refine ⟨by first | omega | (unfold line; omega), ?_⟩
  split
  · exact ⟨⟨cells, ii, sd, 3, 0, sd, rfl, hc, hl, i0, i1, s0, by omega, by omega, by omega, by simp; omega, s0, s1⟩, show ¬ (3 : Int) = 0 by decide⟩
  · rename_i hlt
    refine ⟨by omega, ?_⟩
    have hx : cells[ii.toNat]? = some cells[ii.toNat] := List.getElem?_eq_getElem (by omega)
    have hxb : cells[ii.toNat].natAbs < big := hc _ (List.getElem_mem _)
    rw [hx, G_some]
    generalize cells[ii.toNat] = x at hxb
    simp
    refine ⟨by decide +kernel, ?_⟩
    have hm : mulOk 2 x = true := mulOk_le 2 big (by decide) (by omega) (by decide +kernel)
    by_cases hx0 : x < 0
    · simp only [if_pos hx0]
      split
      · exact ⟨⟨cells, ii + 1, _, 1, 0, sd, rfl, hc, hl, by omega, by omega, by omega, by omega, by omega, by omega, by simp; omega, s0, s1⟩, show ¬ (1 : Int) = 0 by decide⟩
      · exact ⟨hm, hm, ⟨cells, ii + 1, _, 2, 0, sd, rfl, hc, hl, by omega, by omega, by omega, by omega, by omega, by omega, by simp; omega, s0, s1⟩, show ¬ (2 : Int) = 0 by decide⟩
    · simp only [if_neg hx0]
      split
      · exact ⟨⟨cells, ii + 1, _, 1, 0, sd, rfl, hc, hl, by omega, by omega, by omega, by omega, by omega, by omega, by simp; omega, s0, s1⟩, show ¬ (1 : Int) = 0 by decide⟩
      · exact ⟨hm, ⟨cells, ii + 1, _, 2, 0, sd, rfl, hc, hl, by omega, by omega, by omega, by omega, by omega, by omega, by simp; omega, s0, s1⟩, show ¬ (2 : Int) = 0 by decide⟩
end
/-! ### promises of defs -/
/-- f, lent the store and given as, draws at most cost times, and ends in Post -/
def DrawSp (p : Prog) (k f cost : Nat) (as : List D) (Post : Res → Prop) : Prop :=
  ∀ (n : Nat) (c : C) (cs : List Inst), StOk (n + cost) c → Cl (run p k) f (.r c :: as.map .v) cs fun r outs cs' => cs' = cs ∧ (∃ c', outs = [c'] ∧ StOk n c') ∧ nb r = true ∧ Post r
/-- f, given as, ends in Post -/
def PureSp (p : Prog) (k f : Nat) (as : List D) (Post : Res → Prop) : Prop :=
  ∀ (cs : List Inst), Cl (run p k) f (as.map .v) cs fun r outs cs' => cs' = cs ∧ outs = [] ∧ nb r = true ∧ Post r
theorem argsOf_v (g : Sg) : ∀ as : List D, argsOf g (as.map Ar.v) = some (as.map Arg.v) := by
  intro as
  induction as with
  | nil => rfl
  | cons a as ih => simp [argsOf, Ar.arg, ih]
theorem refsOf_v : ∀ as : List D, refsOf (as.map Ar.v) = [] := by
  intro as
  induction as with
  | nil => rfl
  | cons a as ih => simp [refsOf, ih]
theorem hasLent_v : ∀ as : List D, hasLent (as.map Ar.v) = false := by
  intro as
  induction as with
  | nil => rfl
  | cons a as ih => simp [hasLent, ih]
theorem outsOf_v (g : Sg) : ∀ (as : List D) (i : Nat), outsOf g i (as.map Arg.v) = some [] := by
  intro as
  induction as with
  | nil => intro i; rfl
  | cons a as ih => intro i; exact ih (i + 1)
section
variable {p : Prog} {P : Pg} {k f cost : Nat} {as : List D} {Post Post' : Res → Prop}
theorem DrawSp.mono (h : DrawSp p k f cost as Post) {cost' : Nat} (hc : cost ≤ cost') (hp : ∀ r, Post r → Post' r) : DrawSp p k f cost' as Post' := by
  intro n c cs hs
  refine Cl_mono (h n c cs (hs.le (by omega))) ?_
  rintro r o cs' ⟨h1, h2, h3, h4⟩
  exact ⟨h1, h2, h3, hp r h4⟩
theorem PureSp.mono (h : PureSp p k f as Post) (hp : ∀ r, Post r → Post' r) : PureSp p k f as Post' := by
  intro cs
  refine Cl_mono (h cs) ?_
  rintro r o cs' ⟨h1, h2, h3, h4⟩
  exact ⟨h1, h2, h3, hp r h4⟩
/-- a call that draws, from a store lent or one's own -/
theorem W_dr (h : DrawSp p k f cost as Post) {i m : Nat} {g : Sg} {c : C} {xs : List Ar} {Q : Res → Sg → Prop} (hP : P.call = run p k) (hg : g.rho[i]? = some (.ref c)) (hc : StOk m c) (hm : cost ≤ m) (hx : xs = as.map Ar.v)
    (q : ∀ c' r, StOk (m - cost) c' → Post r → nb r = true → Q r { g with rho := g.rho.set i (.ref c') }) : W (callM P f (.r i :: xs)) g Q := by
  subst hx
  refine W_callM (xs := .r c :: as.map Arg.v) ?_ ?_ ?_ ?_
  · simp [argsOf, Ar.arg, hg, argsOf_v]
  · simp [hasLent, hasLent_v]
  · simp [refsOf, refsOf_v]
  · rw [hP]
    refine Cl_mono (h (m - cost) c g.cs (by rwa [Nat.sub_add_cancel hm])) ?_
    rintro r o cs' ⟨rfl, ⟨c', rfl, hc'⟩, hn, hr⟩
    refine ⟨hn, ?_⟩
    obtain ⟨rho, cs⟩ := g
    simp at hg
    simp [refsOf, refsOf_v, hg]
    exact q c' r hc' hr hn
theorem W_dro (h : DrawSp p k f cost as Post) {i m : Nat} {g : Sg} {c : C} {xs : List Ar} {Q : Res → Sg → Prop} (hP : P.call = run p k) (hg : g.rho[i]? = some (.own c)) (hc : StOk m c) (hm : cost ≤ m) (hx : xs = as.map Ar.v)
    (q : ∀ c' r, StOk (m - cost) c' → Post r → nb r = true → Q r { g with rho := g.rho.set i (.own c') }) : W (callM P f (.r i :: xs)) g Q := by
  subst hx
  refine W_callM (xs := .r c :: as.map Arg.v) ?_ ?_ ?_ ?_
  · simp [argsOf, Ar.arg, hg, argsOf_v]
  · simp [hasLent, hasLent_v]
  · simp [refsOf, refsOf_v]
  · rw [hP]
    refine Cl_mono (h (m - cost) c g.cs (by rwa [Nat.sub_add_cancel hm])) ?_
    rintro r o cs' ⟨rfl, ⟨c', rfl, hc'⟩, hn, hr⟩
    refine ⟨hn, ?_⟩
    obtain ⟨rho, cs⟩ := g
    simp at hg
    simp [refsOf, refsOf_v, hg]
    exact q c' r hc' hr hn
/-- a call on data -/
theorem W_pu (h : PureSp p k f as Post) {g : Sg} {xs : List Ar} {Q : Res → Sg → Prop} (hP : P.call = run p k) (hx : xs = as.map Ar.v) (q : ∀ r, Post r → nb r = true → Q r g) : W (callM P f xs) g Q := by
  subst hx
  refine W_callM (xs := as.map Arg.v) (argsOf_v g as) (hasLent_v as) (by rw [refsOf_v]; exact List.nodup_nil) ?_
  rw [hP]
  refine Cl_mono (h g.cs) ?_
  rintro r o cs' ⟨rfl, rfl, hn, hr⟩
  refine ⟨hn, ?_⟩
  obtain ⟨rho, cs⟩ := g
  simp [refsOf_v]
  exact q r hr hn
/-- a call that reads a list of one's own -/
theorem W_puL (h : PureSp p k f as Post) {g : Sg} {xs : List Ar} {Q : Res → Sg → Prop} (hP : P.call = run p k) (hx : argsOf g xs = some (as.map Arg.v)) (hl : hasLent xs = true) (hf : nfArgs (as.map Arg.v) = true) (hq : ∀ r, Post r → ∃ d, r = .val d ∧ flat d = true) (q : ∀ r, Post r → Q r g) : W (callM P f xs) g Q := by
  refine W_callL hx hl hf ?_
  rw [hP]
  refine Cl_mono (h []) ?_
  rintro r o cs' ⟨rfl, rfl, hn, hr⟩
  obtain ⟨d, rfl, hd⟩ := hq r hr
  exact ⟨rfl, d, rfl, hd, q _ hr⟩
theorem DrawSp.mk_ {F : Fn} (hF : p.fns[f]? = some F) (hl : as.length + 1 = F.np)
    (h : ∀ (n : Nat) (c : C) (cs : List Inst) (Q : Flow → Sg → Prop), StOk (n + cost) c → (∀ m c' r rho, StOk m c' → n ≤ m → nb r = true → Post r → Q (.ret r) ⟨.ref c' :: rho, cs⟩) → (∀ m c' rho, StOk m c' → n ≤ m → Post (.val .non) → Q .next ⟨.ref c' :: rho, cs⟩) →
      W (exs (p.pg (run p (k + 1)) (run p k)) F.body) ⟨initRho F.nn (.r c :: as.map .v), cs⟩ Q) : DrawSp p (k + 2) f cost as Post := by
  intro n c cs hc
  refine Cl_fn hF (by simpa using hl) (h n c cs _ hc ?_ ?_)
  · intro m c' r rho h1 hm h2 h3
    simp [outsOf_v]
    exact ⟨h1.le hm, h2, h3⟩
  · intro m c' rho h1 hm h3
    simp [outsOf_v]
    exact ⟨h1.le hm, h3⟩
theorem PureSp.mk_ {F : Fn} (hF : p.fns[f]? = some F) (hl : as.length = F.np)
    (h : ∀ (cs : List Inst) (Q : Flow → Sg → Prop), (∀ r rho, nb r = true → Post r → Q (.ret r) ⟨rho, cs⟩) → (∀ rho, Post (.val .non) → Q .next ⟨rho, cs⟩) →
      W (exs (p.pg (run p (k + 1)) (run p k)) F.body) ⟨initRho F.nn (as.map .v), cs⟩ Q) : PureSp p (k + 2) f as Post := by
  intro cs
  refine Cl_fn hF (by simpa using hl) (h cs _ ?_ ?_)
  · intro r rho h2 h3
    simp [outsOf_v]
    exact ⟨h2, h3⟩
  · intro rho h3
    simp [outsOf_v]
    exact h3
end
/-- an int of which B is true -/
def IntR (B : Int → Prop) (r : Res) : Prop := ∃ v : Int, r = .val (.int v) ∧ B v
/-- the draws' own defs stand at these places -/
structure Dr (p : Prog) (it im inx : Nat) : Prop where
  take : p.fns[it]? = some ⟨2, 4, Lib.law_take im inx⟩
  mix : p.fns[im]? = some ⟨2, 3, Lib.law_mix⟩
  next : p.fns[inx]? = some ⟨1, 2, Lib.law_next⟩
section
variable {p : Prog} {k : Nat} {cs : List Inst}
theorem take_2 {j l n : Nat} {c : C} {many : Int} {Q : Flow → Sg → Prop} (hj : p.fns[j]? = some ⟨2, 3, Lib.law_mix⟩) (s : St (n + 1) c) (h3 : many < 340282366920938463463374607431768211456) (h2 : 2 ≤ many) (m0 : s.m ≠ 0)
    (q : ∀ c' v r2 r3, StOk n c' → 0 ≤ v → v < many → Q (.ret (.val (.int v))) ⟨[.ref c', .val (.int many), r2, r3], cs⟩) :
    W (exs (p.pg (run p (k + 2)) (run p (k + 1))) (Lib.law_take_2 j l)) ⟨[.ref c, .val (.int many), .un, .un], cs⟩ Q := by
  obtain ⟨cells, ii, v, m, t, sd, rfl, hc, hl, i0, i1, v0, v1, hm0, t0, t1, s0, s1⟩ := s
  have hb1 := big1
  have m0 : m ≠ 0 := m0
  have hlog : fdOk many = true := fdOk_of (by omega)
  have hmpos : 0 < many := by omega
  have hdv : 0 ≤ v / many ∧ v / many ≤ v := ⟨Int.ediv_nonneg v0 (by omega), Int.ediv_le_self many v0⟩
  have hmd : 0 ≤ v % many ∧ v % many < many := ⟨Int.emod_nonneg v (by omega), Int.emod_lt_of_pos v (by omega)⟩
  have last : ∀ r3 : Int, 0 ≤ r3 → r3.natAbs ≤ 8 * big → W (exs (p.pg (run p (k + 2)) (run p (k + 1))) (Lib.law_take_3 j l)) ⟨[.ref (.lst [.lst (cells.map D.int), .int ii, .int v, .int m, .int (t + 1), .int sd]), .val (.int many), .un, .val (.int r3)], cs⟩ Q := by
    intro r3 h0 h1
    simp [Lib.law_take_3]
    refine W_callM (xs := [.v (.int v), .v (.int r3)]) rfl rfl (by simp [refsOf]) (Cl_mono (mix_sp (k := k) hj (by omega) h1) ?_)
    rintro r o cs' ⟨rfl, rfl, w, rfl, w0, w1⟩
    simp [refsOf, hmpos]
    exact q _ _ _ _ ⟨⟨cells, ii, v, m, t + 1, sd, rfl, hc, hl, i0, i1, v0, v1, hm0, by omega, by omega, s0, s1⟩⟩ (Int.emod_nonneg w (by omega)) (Int.emod_lt_of_pos w (by omega))
  simp [Lib.law_take_2, hmpos, hlog]
  split
  · exact q _ _ _ _ ⟨⟨cells, ii, _, m, t, sd, rfl, hc, hl, i0, i1, hdv.1, by omega, hm0, t0, by omega, s0, s1⟩⟩ hmd.1 hmd.2
  · split
    · exact ⟨mulOk_le 64 64 (by decide) (by omega) (by decide +kernel), last _ (by omega) (by omega)⟩
    · exact last _ (by omega) (by omega)
theorem take_1 {j l n : Nat} {cells : List Int} {ii v m t sd many : Int} {Q : Flow → Sg → Prop} (hj : p.fns[j]? = some ⟨2, 3, Lib.law_mix⟩) (hl : p.fns[l]? = some ⟨1, 2, Lib.law_next⟩) (s : StOk (n + 1) (.lst [.lst (cells.map D.int), .int ii, .int v, .int m, .int t, .int sd])) (h3 : many < 340282366920938463463374607431768211456) (h2 : 2 ≤ many)
    (q : ∀ c' v r2 r3, StOk n c' → 0 ≤ v → v < many → Q (.ret (.val (.int v))) ⟨[.ref c', .val (.int many), r2, r3], cs⟩) :
    W (exs (p.pg (run p (k + 2)) (run p (k + 1))) (Lib.law_take_1 j l)) ⟨[.ref (.lst [.lst (cells.map D.int), .int ii, .int v, .int m, .int t, .int sd]), .val (.int many), .un, .un], cs⟩ Q := by
  simp [Lib.law_take_1]
  split
  · refine W_callM (xs := [.r _]) rfl rfl (by simp [refsOf]) (Cl_mono (next_sp (k := k) (n := n + 1) hl s) ?_)
    rintro r o cs' ⟨rfl, rfl, c', rfl, s, hs⟩
    simp [refsOf]
    exact take_2 hj s h3 h2 hs q
  · rename_i hm
    obtain ⟨s⟩ := s
    refine take_2 hj s h3 h2 ?_ q
    have e := s.eq
    simp at e
    omega
/-- a draw -/
theorem take_d {i j l : Nat} (d : Dr p i j l) (many : Int) (h1 : 1 ≤ many) (h2 : many < 340282366920938463463374607431768211456) : DrawSp p (k + 3) i 1 [.int many] (IntR fun v => 0 ≤ v ∧ v < many) := by
  refine DrawSp.mk_ (k := k + 1) d.take rfl fun n c cs Q hc q _ => ?_
  have hb1 := big1
  simp [Lib.law_take]
  split
  · exact q _ _ _ _ hc (by omega) rfl ⟨0, rfl, by omega, by omega⟩
  obtain ⟨s⟩ := hc
  obtain ⟨cells, ii, v, m, t, sd, rfl, hc, hcl, i0, i1, v0, v1, m0, t0, t1, s0, s1⟩ := s
  have fin : ∀ m' : Int, (m' = 0 ∨ m' = 1 ∨ m' = 2 ∨ m' = 3) → W (exs (p.pg (run p (k + 2)) (run p (k + 1))) (Lib.law_take_1 j l)) ⟨[.ref (.lst [.lst (cells.map D.int), .int ii, .int v, .int m', .int t, .int sd]), .val (.int many), .un, .un], cs⟩ Q := by
    intro m' hm'
    refine take_1 d.mix d.next ⟨⟨cells, ii, v, m', t, sd, rfl, hc, hcl, i0, i1, v0, v1, hm', t0, t1, s0, s1⟩⟩ h2 (by omega) ?_
    intro c' w r2 r3 h w0 w1
    exact q _ _ _ _ h (by omega) rfl ⟨w, rfl, w0, w1⟩
  rcases m0 with rfl | rfl | rfl | rfl
  · simp; exact fin 0 (by omega)
  · simp; split
    · exact fin 0 (by omega)
    · exact fin 1 (by omega)
  · simp; split
    · exact fin 0 (by omega)
    · exact fin 2 (by omega)
  · simp; exact fin 3 (by omega)
end
end Iv
set_option linter.all false
set_option autoImplicit false
set_option maxRecDepth 100000
set_option maxHeartbeats 2000000
set_option exponentiation.threshold 20000
/-! Lw4: helpers over the store of draws. -/
namespace Iv
open PySem (Str Expr Stmt CmpOp Operator BoolOp PyData)
/-- range(n) -/
theorem rng_get {lo hi : Int} {ds : List D} {j : Nat} {e : D} (h : rngD lo hi = some ds) (hd : ds[j]? = some e) : e = .int (lo + j) ∧ lo + j < hi := by
  unfold rngD at h
  split at h
  · cases h
    rw [List.getElem?_map] at hd
    obtain ⟨y, hy, rfl⟩ := Option.map_eq_some_iff.mp hd
    have h2 := List.getElem?_eq_some_iff.mp hy
    obtain ⟨h3, h4⟩ := h2
    simp at h3 h4
    subst h4
    exact ⟨rfl, by omega⟩
  · cases h
theorem rng_len {lo hi : Int} {ds : List D} (h : rngD lo hi = some ds) : ds.length = (hi - lo).toNat := by
  unfold rngD at h
  split at h
  · cases h; simp
  · cases h
theorem rng_some {lo hi : Int} (h1 : -4611686018427387904 ≤ lo) (h2 : lo < 4611686018427387904) (h3 : -4611686018427387904 ≤ hi) (h4 : hi < 4611686018427387904) : ∃ ds, rngD lo hi = some ds := by
  unfold rngD
  rw [if_pos ⟨h1, h2, h3, h4⟩]
  exact ⟨_, rfl⟩
/-- a slot that is no more looked at -/
def Dead : Type := { s : Sl // isRef s = false }
@[simp] theorem Dead.ok (d : Dead) : isRef d.1 = false := d.2
def Dead.un : Dead := ⟨.un, rfl⟩
def Dead.v (d : D) : Dead := ⟨.val d, rfl⟩
def Dead.o (c : C) : Dead := ⟨.own c, rfl⟩
@[simp] theorem Dead.un1 : Dead.un.1 = .un := (rfl)
@[simp] theorem Dead.v1 {d : D} : (Dead.v d).1 = .val d := (rfl)
@[simp] theorem Dead.o1 {c : C} : (Dead.o c).1 = .own c := (rfl)
/-- a loop over a list, by an invariant; R stands for what the turn's end must bring -/
theorem W_lp {tg : Tg} {b : M Flow} {ds : List D} {g : Sg} {Q : Flow → Sg → Prop} (I : Nat → Sg → Prop) (h : I 0 g)
    (step : ∀ (j : Nat) (d : D) g (R : Flow → Sg → Prop), ds[j]? = some d → I j g → (∀ g, I (j + 1) g → R .next g) → (∀ g, I (j + 1) g → R .cnt g) → (∀ g, Q .next g → R .brk g) → (∀ r g, Q (.ret r) g → R (.ret r) g) →
      G (bindTg tg d g) fun g1 => W b g1 R) (hd : ∀ g, I ds.length g → Q .next g) : W (loopS tg b ds) g Q := by
  refine W_loop0 I h ?_ hd
  intro i d g hi hI
  exact step i d g _ hi hI (fun _ h => h) (fun _ h => h) (fun _ h => h) (fun _ _ h => h)
/-- a loop over range(n) -/
theorem W_rng {P : Pg} {i : Nat} {b : Ss} {hi : Int} {g : Sg} {Q : Flow → Sg → Prop} (I : Nat → Sg → Prop) (h : I 0 g) (h3 : -4611686018427387904 ≤ hi) (h4 : hi < 4611686018427387904)
    (step : ∀ (j : Nat) g (R : Flow → Sg → Prop), (j : Int) < hi → I j g → (∀ g, I (j + 1) g → R .next g) → (∀ g, I (j + 1) g → R .cnt g) → (∀ g, Q .next g → R .brk g) → (∀ r g, Q (.ret r) g → R (.ret r) g) →
      G (setSl g i (.val (.int j))) fun g1 => W (exs P b) g1 R) (hd : ∀ g, I hi.toNat g → Q .next g) : Rg hi fun ds => W (loopS (.nm i) (exs P b) ds) g Q := by
  rw [Rg_eq]
  obtain ⟨ds, e⟩ := rng_some (lo := 0) (by omega) (by omega) h3 h4
  rw [e, G_some]
  refine W_lp I h ?_ ?_
  · intro j d g R hj hI
    obtain ⟨rfl, hlt⟩ := rng_get e hj
    rw [Int.zero_add] at hlt ⊢
    exact step j g R hlt hI
  · intro g hI
    rw [rng_len e, Int.sub_zero] at hI
    exact hd g hI
section
variable {p : Prog} {k : Nat} {it im inx ip : Nat}
theorem pick_d (d : Dr p it im inx) {i : Nat} (hF : p.fns[i]? = some ⟨2, 2, Lib.law_pick it⟩) (ds : List D) (h1 : ds ≠ []) (h2 : ds.length ≤ 16777216) : DrawSp p (k + 4) i 1 [.lst ds] (fun r => ∃ d ∈ ds, r = .val d) := by
  refine DrawSp.mk_ (k := k + 2) hF rfl fun n c cs Q hc q _ => ?_
  have hl : 0 < ds.length := List.length_pos_iff.mpr h1
  have hline : line = 16777216 := rfl
  simp [Lib.law_pick, h2]
  refine W_dr (take_d d ds.length (by omega) (by omega)) rfl rfl hc (by omega) rfl ?_
  rintro c' _ hc' ⟨v, rfl, v0, v1⟩ -
  have hv : v.toNat < ds.length := by omega
  simp [v0, v1]
  exact q _ _ _ _ hc' (by omega) rfl ⟨_, List.getElem_mem hv, rfl⟩
theorem picki_d (d : Dr p it im inx) {i : Nat} (hF : p.fns[i]? = some ⟨2, 2, Lib.law_pick it⟩) (is : List Int) (h1 : is ≠ []) (h2 : is.length ≤ 16777216) : DrawSp p (k + 4) i 1 [.lst (is.map .int)] (IntR fun v => v ∈ is) := by
  refine (pick_d d hF _ (by simpa using h1) (by simpa using h2)).mono (Nat.le_refl _) ?_
  rintro r ⟨x, hx, rfl⟩
  obtain ⟨v, hv, rfl⟩ := List.mem_map.mp hx
  exact ⟨v, rfl, hv⟩
theorem low_d (d : Dr p it im inx) (hp : p.fns[ip]? = some ⟨2, 2, Lib.law_pick it⟩) {i : Nat} (hF : p.fns[i]? = some ⟨1, 1, Lib.law_low ip⟩) : DrawSp p (k + 5) i 1 [] (IntR fun v => v.natAbs ≤ 12) := by
  refine DrawSp.mk_ (k := k + 3) hF rfl fun n c cs Q hc q _ => ?_
  simp [Lib.law_low]
  refine W_dr (picki_d d hp [0, 1, 2, 3, -1, 4, 5, -2, 7, 9, -3, 12] (by simp) (by decide)) rfl rfl hc (by omega) rfl ?_
  rintro c' _ hc' ⟨v, rfl, hv⟩ -
  refine ⟨rfl, q _ _ _ _ hc' (by omega) rfl ⟨v, rfl, ?_⟩⟩
  simp at hv
  omega
/-- beyond every vast number that is drawn -/
def vastB : Nat := 10 ^ 5500
theorem vast_b {m : Nat} (h : m ≤ 15) : 10 ^ (1 + 360 * m) + 9 ≤ vastB := by
  have h1 : (10 : Nat) ^ (1 + 360 * m) ≤ 10 ^ 5401 := Nat.pow_le_pow_right (by decide) (by omega)
  have h2 : (10 : Nat) ^ 5401 + 9 ≤ vastB := by decide +kernel
  omega
theorem vast_d (d : Dr p it im inx) {i : Nat} (hF : p.fns[i]? = some ⟨1, 3, Lib.law_vast it⟩) : DrawSp p (k + 4) i 4 [] (IntR fun v => v.natAbs ≤ vastB) := by
  refine DrawSp.mk_ (k := k + 2) hF rfl fun n c cs Q hc q _ => ?_
  simp [Lib.law_vast]
  refine W_dr (take_d d 9 (by omega) (by omega)) rfl rfl hc (by omega) rfl ?_
  rintro c1 _ h1 ⟨v1, rfl, v10, v11⟩ -
  simp
  refine W_dr (take_d d 15 (by omega) (by omega)) rfl rfl h1 (by omega) rfl ?_
  rintro c2 _ h2 ⟨v2, rfl, v20, v21⟩ -
  simp
  refine W_rng (fun j g => ∃ (x : Int) (r : Sl), g = ⟨[.ref c2, .val (.int x), r], cs⟩ ∧ isRef r = false ∧ x.natAbs ≤ 10 ^ (1 + 360 * j)) ?_ (by omega) (by omega) ?_ ?_
  · exact ⟨1 + v1, .un, rfl, rfl, by omega⟩
  · rintro j g R hj ⟨x, r, rfl, hr, hx⟩ hn - - -
    have hxb : x.natAbs ≤ vastB := Nat.le_trans hx (Nat.le_trans (Nat.le_add_right _ 9) (vast_b (m := j) (by omega)))
    simp [hr, Lib.law_vast_1]
    refine ⟨by decide +kernel, by decide +kernel, mulOk_le vastB (10 ^ 360) hxb (by decide +kernel) (by decide +kernel), hn _ ⟨_, _, rfl, rfl, ?_⟩⟩
    rw [Int.natAbs_mul]
    have e2 : (10 : Nat) ^ (1 + 360 * (j + 1)) = 10 ^ (1 + 360 * j) * 10 ^ 360 := by rw [← Nat.pow_add]; congr 1
    rw [e2]
    exact Nat.mul_le_mul hx (by decide +kernel)
  · rintro g ⟨x, r, rfl, hr, hx⟩
    have hxb : x.natAbs + 9 ≤ vastB := Nat.le_trans (Nat.add_le_add_right hx 9) (vast_b (by omega))
    simp [Lib.law_vast_2]
    refine W_dr (take_d d 9 (by omega) (by omega)) rfl rfl h2 (by omega) rfl ?_
    rintro c3 _ h3 ⟨v3, rfl, v30, v31⟩ -
    simp
    refine W_dr (take_d d 2 (by omega) (by omega)) rfl rfl h3 (by omega) rfl ?_
    rintro c4 _ h4 ⟨v4, rfl, v40, v41⟩ -
    simp [Lib.law_vast_3]
    split <;> exact q _ _ _ _ h4 (by omega) rfl ⟨_, rfl, by omega⟩
theorem figures_5 (d : Dr p it im inx) {cs : List Inst} {Q : Flow → Sg → Prop} {B m : Nat} {c : C} {y : Int} {r1 r2 r3 r4 r5 : Sl} (hc : StOk (m + 1) c) (hy : y.natAbs < B) (q : ∀ c' v rho, StOk m c' → v.natAbs < B → Q (.ret (.val (.int v))) ⟨.ref c' :: rho, cs⟩) :
    W (exs (p.pg (run p (k + 3)) (run p (k + 2))) (Lib.law_figures_5 it)) ⟨[.ref c, r1, r2, r3, r4, r5, .val (.int y)], cs⟩ Q := by
  simp [Lib.law_figures_5]
  refine W_dr (take_d d 2 (by omega) (by omega)) rfl rfl hc (by omega) rfl ?_
  rintro c3 _ hc3 ⟨w, rfl, _, _⟩ -
  simp [Lib.law_figures_6]
  split <;> exact q _ _ _ hc3 (by omega)
theorem figures_4 (d : Dr p it im inx) {cs : List Inst} {Q : Flow → Sg → Prop} {m : Nat} {c : C} {x e l way : Int} {r1 r3 : Sl} (hc : StOk (m + 1) c) (hl : 0 < l) (he : e = l * 10) (q : ∀ c' v rho, StOk m c' → v.natAbs < e.natAbs → Q (.ret (.val (.int v))) ⟨.ref c' :: rho, cs⟩) :
    W (exs (p.pg (run p (k + 3)) (run p (k + 2))) (Lib.law_figures_4 it)) ⟨[.ref c, r1, .val (.int e), r3, .val (.int l), .val (.int way), .val (.int x)], cs⟩ Q := by
  simp [Lib.law_figures_4]
  refine ⟨by omega, ?_⟩
  have hx0 : 0 ≤ x % (e - l) := Int.emod_nonneg _ (by omega)
  have hx1 : x % (e - l) < e - l := Int.emod_lt_of_pos _ (by omega)
  split <;> exact figures_5 d hc (by omega) q
theorem figures_d (d : Dr p it im inx) {i : Nat} (hF : p.fns[i]? = some ⟨2, 7, Lib.law_figures it⟩) (fig : Int) (h1 : 1 ≤ fig) (h2 : fig ≤ 62) : DrawSp p (k + 4) i 10 [.int fig] (IntR fun v => v.natAbs < 10 ^ fig.toNat) := by
  refine DrawSp.mk_ (k := k + 2) hF rfl fun n c cs Q hc q _ => ?_
  simp [Lib.law_figures]
  refine W_rng (fun j g => ∃ r, g = ⟨[.ref c, .val (.int fig), .val (.int (10 ^ j)), r, .un, .un, .un], cs⟩ ∧ isRef r = false) ⟨.un, rfl, rfl⟩ (by omega) (by omega) ?_ ?_
  · rintro j g R hj ⟨r, rfl, hr⟩ hn - - -
    simp [hr, Lib.law_figures_1]
    refine ⟨mulOk_le (10 ^ 62) 10 ?_ (by decide) (by decide +kernel), ?_⟩
    · rw [Int.natAbs_pow]
      exact Nat.pow_le_pow_right (by decide) (by omega)
    · exact hn _ ⟨_, by rw [Int.pow_succ], rfl⟩
  rintro g ⟨r, rfl, hr⟩
  obtain ⟨f, rfl⟩ : ∃ f : Nat, fig = f + 1 := ⟨(fig - 1).toNat, by omega⟩
  have ef2 : ((f : Int) + 1).toNat = f + 1 := by omega
  rw [ef2] at q ⊢
  have hp : (0 : Int) < 10 ^ f := Int.pow_pos (by decide)
  have es : (10 : Int) ^ (f + 1) = 10 ^ f * 10 := Int.pow_succ ..
  have enat : (10 : Nat) ^ (f + 1) = ((10 : Int) ^ (f + 1)).natAbs := by rw [Int.natAbs_pow]; rfl
  rw [enat] at q
  generalize (10 : Int) ^ (f + 1) = e at *
  generalize (10 : Int) ^ f = l at *
  have hdiv : e / 10 = l := by omega
  simp [Lib.law_figures_2, hdiv]
  refine ⟨fdOk_of (by decide), ?_⟩
  refine W_dr (take_d d 4 (by omega) (by omega)) rfl rfl hc (by omega) rfl ?_
  rintro c1 _ hc1 ⟨way, rfl, w0, w1⟩ -
  have fin : ∀ (c2 : C) (x : Int) (r3 : Sl), StOk (n + 1) c2 → W (exs (p.pg (run p (k + 3)) (run p (k + 2))) (Lib.law_figures_4 it)) ⟨[.ref c2, .val (.int (f + 1)), .val (.int e), r3, .val (.int l), .val (.int way), .val (.int x)], cs⟩ Q := by
    intro c2 x r3 hc2
    refine figures_4 d hc2 hp es ?_
    intro c' v rho hc' hv
    exact q _ _ _ _ hc' (by omega) rfl ⟨v, rfl, hv⟩
  simp
  split
  · refine ⟨fdOk_of (by decide), ?_⟩
    refine W_rng (fun j g => ∃ (r : Sl) (c2 : C) (x : Int), g = ⟨[.ref c2, .val (.int (f + 1)), .val (.int e), r, .val (.int l), .val (.int way), .val (.int x)], cs⟩ ∧ isRef r = false ∧ StOk (n + 8 - j) c2 ∧ x.natAbs < 10 ^ (9 * j + 1)) ?_ (by omega) (by omega) ?_ ?_
    · exact ⟨r, c1, 0, rfl, hr, hc1.le (by omega), by simp⟩
    · rintro j g R hj ⟨r, c2, x, rfl, hr, hc2, hx⟩ hn - - -
      have hj7 : j < 7 := by omega
      simp [hr, Lib.law_figures_3]
      refine ⟨mulOk_le (10 ^ 64) 1000000000 ?_ (by decide) (by decide +kernel), ?_⟩
      · exact Nat.le_trans (Nat.le_of_lt hx) (Nat.pow_le_pow_right (by decide) (by omega))
      refine W_dr (take_d d 1000000000 (by omega) (by omega)) rfl rfl hc2 (by omega) rfl ?_
      rintro c3 _ hc3 ⟨w, rfl, w0, w1⟩ -
      simp
      refine hn _ ⟨_, _, _, rfl, rfl, hc3.le (by omega), ?_⟩
      have e2 : (10 : Nat) ^ (9 * (j + 1) + 1) = 10 ^ (9 * j + 1) * 1000000000 := by rw [show 9 * (j + 1) + 1 = 9 * j + 1 + 9 by omega, Nat.pow_add]
      rw [e2]
      generalize (10 : Nat) ^ (9 * j + 1) = z at *
      omega
    · rintro g ⟨r, c2, x, rfl, hr, hc2, hx⟩
      simp
      exact fin _ _ _ (hc2.le (by omega))
  · exact fin _ _ _ (hc1.le (by omega))
/-- the store made of the script -/
theorem store_sp {cs : List Inst} {i : Nat} {ns : List Int} (hF : p.fns[i]? = some ⟨1, 5, Lib.law_store⟩) (hl : ns.length ≤ 63) :
    Cl (run p (k + 2)) i [.v (.scr ns)] cs fun r outs cs' => cs' = cs ∧ outs = [] ∧ ∃ ds, r = .fresh (.lst ds) ∧ StOk 1000000000 (.lst ds) := by
  refine Cl_fn hF rfl ?_
  simp [Lib.law_store]
  refine W_loop0 (fun j g => ∃ (xs : List Int) (sd : Int) (r3 r4 : Sl), g = ⟨[.val (.scr ns), .own (.lst (xs.map D.int)), .val (.int sd), r3, r4], cs⟩ ∧ xs.length = j ∧ (∀ x ∈ xs, x.natAbs < big) ∧ 0 ≤ sd ∧ sd < 2305843009213693951 ∧ isRef r3 = false ∧ isRef r4 = false) ?_ ?_ ?_
  · exact ⟨[], 7, .un, .un, by simp [lock], rfl, by simp, by omega, by omega, rfl, rfl⟩
  · rintro j d g hd ⟨xs, sd, r3, r4, rfl, hx, hb, h0, h1, q3, q4⟩
    rw [List.getElem?_map] at hd
    obtain ⟨x, _, rfl⟩ := Option.map_eq_some_iff.mp hd
    simp [q3, q4, Lib.law_store_1]
    have hm : mulOk sd 1000003 = true := mulOk_le 2305843009213693951 1000003 (by omega) (by decide) (by decide +kernel)
    have hjl : xs.length < line := by
      have := (List.getElem?_eq_some_iff.mp (show ns[j]? = some x by assumption)).1
      have : line = 16777216 := rfl
      omega
    have hb3 : (10 : Nat) ^ 300 ≤ big := by decide +kernel
    have hz : ∀ y : Int, y = (if x < 0 then -x else x) % 10 ^ 300 → y.natAbs < big := by
      intro y hy
      have e1 : 0 ≤ y := by rw [hy]; exact Int.emod_nonneg _ (by decide +kernel)
      have e2 : y < (10 : Int) ^ 300 := by rw [hy]; exact Int.emod_lt_of_pos _ (by decide +kernel)
      have e3 : ((10 : Nat) ^ 300 : Nat) = ((10 : Int) ^ 300).natAbs := by decide +kernel
      omega
    refine ⟨by decide +kernel, by decide +kernel, ?_⟩
    generalize hy : (if x < 0 then -x else x) % _ = y
    have hyb : y.natAbs < big := hz y hy.symm
    split <;> simp [Lib.law_store_2]
    · refine ⟨hjl, hm, xs ++ [-y], _, _, _, ⟨by simp, rfl, rfl, rfl⟩, by simp [hx], ?_, by omega, by omega, rfl, rfl⟩
      intro w hw
      rcases List.mem_append.mp hw with hw | hw
      · exact hb w hw
      · simp at hw; subst hw; omega
    · refine ⟨hjl, hm, xs ++ [y], _, _, _, ⟨by simp, rfl, rfl, rfl⟩, by simp [hx], ?_, by omega, by omega, rfl, rfl⟩
      intro w hw
      rcases List.mem_append.mp hw with hw | hw
      · exact hb w hw
      · simp at hw; subst hw; omega
  · rintro g ⟨xs, sd, r3, r4, rfl, hx, hb, h0, h1, q3, q4⟩
    simp [Lib.law_store_3]
    rw [List.length_map] at hx
    have hb1 := big1
    exact ⟨⟨xs, 0, 0, 0, 0, sd, rfl, hb, by omega, by omega, by omega, by omega, by simp, .inl rfl, by omega, by simp; omega, h0, h1⟩⟩
end
end Iv
set_option linter.all false
set_option autoImplicit false
set_option maxRecDepth 100000
set_option maxHeartbeats 2000000
/-! Lw5: pools; alike and the same. -/
namespace Iv
open PySem (Str Expr Stmt CmpOp Operator BoolOp PyData)
/-- a new list of whole numbers -/
def IntsR (B : List Int → Prop) (r : Res) : Prop := ∃ is : List Int, r = .fresh (.lst (is.map .int)) ∧ B is
section
variable {p : Prog} {k : Nat} {it im inx ip ifg il : Nat}
/-- more of the draws' defs -/
structure Dr2 (p : Prog) (it im inx ip ifg il : Nat) : Prop where
  dr : Dr p it im inx
  pick : p.fns[ip]? = some ⟨2, 2, Lib.law_pick it⟩
  fig : p.fns[ifg]? = some ⟨2, 7, Lib.law_figures it⟩
  low : p.fns[il]? = some ⟨1, 1, Lib.law_low ip⟩
theorem Dr2.figd (d : Dr2 p it im inx ip ifg il) (fig : Int) (h1 : 1 ≤ fig) (h2 : fig ≤ 62) : DrawSp p (k + 4) ifg 10 [.int fig] (IntR fun v => v.natAbs < 10 ^ fig.toNat) := figures_d d.dr d.fig fig h1 h2
theorem Dr2.lowd (d : Dr2 p it im inx ip ifg il) : DrawSp p (k + 5) il 1 [] (IntR fun v => v.natAbs ≤ 12) := low_d d.dr d.pick d.low
theorem Dr2.pickd (d : Dr2 p it im inx ip ifg il) (ds : List D) (h1 : ds ≠ []) (h2 : ds.length ≤ 16777216) : DrawSp p (k + 4) ip 1 [.lst ds] (fun r => ∃ d ∈ ds, r = .val d) := pick_d d.dr d.pick ds h1 h2
theorem Dr2.picki (d : Dr2 p it im inx ip ifg il) (is : List Int) (h1 : is ≠ []) (h2 : is.length ≤ 16777216) : DrawSp p (k + 4) ip 1 [.lst (is.map .int)] (IntR fun v => v ∈ is) := picki_d d.dr d.pick is h1 h2
theorem Dr2.tk (d : Dr2 p it im inx ip ifg il) (many : Int) (h1 : 1 ≤ many) (h2 : many < 340282366920938463463374607431768211456) : DrawSp p (k + 3) it 1 [.int many] (IntR fun v => 0 ≤ v ∧ v < many) := take_d d.dr many h1 h2
theorem pool_1 (d : Dr2 p it im inx ip ifg il) {n : Nat} {c : C} {v : Int} {cs : List Inst} {Q : Flow → Sg → Prop} (hc : StOk (n + 50) c) (q : ∀ c' is rho, StOk n c' → is ≠ [] → is.length ≤ 4 → Q (.ret (.fresh (.lst (is.map .int)))) ⟨.ref c' :: rho, cs⟩) :
    W (exs (p.pg (run p (k + 5)) (run p (k + 4))) (Lib.law_pool_1 ifg il it)) ⟨[.ref c, .val (.int v), .un, .un, .un, .un], cs⟩ Q := by
  simp [Lib.law_pool_1]
  refine W_dr (d.tk 3 (by omega) (by omega)) rfl rfl hc (by omega) rfl ?_
  rintro c1 _ hc1 ⟨w, rfl, w0, w1⟩ -
  simp
  refine W_rng (fun j g => ∃ (is : List Int) (v : Int) (c2 : C) (r3 r4 r5 : Dead), g = ⟨[.ref c2, .val (.int v), .own (.lst (is.map .int)), r3.1, r4.1, r5.1], cs⟩ ∧ is.length = j + 1 ∧ StOk (n + 49 - 13 * j) c2) ?_ (by omega) (by omega) ?_ ?_
  · exact ⟨[v], v, c1, .un, .un, .un, rfl, rfl, hc1.le (by omega)⟩
  · rintro j g R hj ⟨is, v, c2, r3, r4, r5, rfl, hl, hc2⟩ hn - - -
    have f5 : ∀ (m : Nat) (c : C) (w x : Int), StOk m c → n + 49 - 13 * (j + 1) ≤ m → W (exs (p.pg (run p (k + 5)) (run p (k + 4))) (Lib.law_pool_5 ifg il it)) ⟨[.ref c, .val (.int v), .own (.lst (is.map .int)), .val (.int j), .val (.int w), .val (.int x)], cs⟩ R := by
      intro m c w x hc hm
      simp [Lib.law_pool_5, hl]
      exact ⟨by first | omega | (unfold line; omega), hn _ ⟨is ++ [v + x], v + x, c, .v (.int j), .v (.int w), .v (.int x), by simp, by simp [hl], hc.le hm⟩⟩
    have f4 : ∀ (m : Nat) (c : C) (w x : Int), StOk m c → n + 49 - 13 * j ≤ m + 2 → W (exs (p.pg (run p (k + 5)) (run p (k + 4))) (Lib.law_pool_4 ifg il it)) ⟨[.ref c, .val (.int v), .own (.lst (is.map .int)), .val (.int j), .val (.int w), .val (.int x)], cs⟩ R := by
      intro m c w x hc hm
      simp [Lib.law_pool_4]
      split
      · refine W_dr (d.tk 20 (by omega) (by omega)) rfl rfl hc (by omega) rfl ?_
        rintro c1 _ hc1 ⟨w, rfl, w0, w1⟩ -
        simp
        refine W_dr (d.figd _ (by omega) (by omega)) rfl rfl hc1 (by omega) rfl ?_
        rintro c2 _ hc2 ⟨w, rfl, w0⟩ -
        simp
        exact f5 _ _ _ _ hc2 (by omega)
      · exact f5 _ _ _ _ hc (by omega)
    have f3 : ∀ (m : Nat) (c : C) (w x : Int), StOk m c → n + 49 - 13 * j ≤ m + 1 → W (exs (p.pg (run p (k + 5)) (run p (k + 4))) (Lib.law_pool_3 ifg il it)) ⟨[.ref c, .val (.int v), .own (.lst (is.map .int)), .val (.int j), .val (.int w), .val (.int x)], cs⟩ R := by
      intro m c w x hc hm
      simp [Lib.law_pool_3]
      split
      · refine W_dr (d.tk 9 (by omega) (by omega)) rfl rfl hc (by omega) rfl ?_
        rintro c1 _ hc1 ⟨w, rfl, w0, w1⟩ -
        simp
        exact f4 _ _ _ _ hc1 (by omega)
      · exact f4 _ _ _ _ hc (by omega)
    simp [Lib.law_pool_2]
    refine W_dr (d.tk 8 (by omega) (by omega)) rfl rfl hc2 (by omega) rfl ?_
    rintro c3 _ hc3 ⟨w, rfl, w0, w1⟩ -
    simp
    split
    · exact f3 _ _ _ _ hc3 (by omega)
    · split <;> exact f3 _ _ _ _ hc3 (by omega)
  · rintro g ⟨is, v, c2, r3, r4, r5, rfl, hl, hc2⟩
    simp [Lib.law_pool_6]
    exact q _ _ _ (hc2.le (by omega)) (by intro h; simp [h] at hl) (by omega)
theorem pool_d (d : Dr2 p it im inx ip ifg il) {i : Nat} (hF : p.fns[i]? = some ⟨1, 6, Lib.law_pool ifg il it⟩) : DrawSp p (k + 6) i 70 [] (IntsR fun is => is ≠ [] ∧ is.length ≤ 4) := by
  refine DrawSp.mk_ (k := k + 4) hF rfl fun n c cs Q hc q _ => ?_
  have f1 : ∀ (m : Nat) (v : Int) (c : C), StOk m c → n + 50 ≤ m → W (exs (p.pg (run p (k + 5)) (run p (k + 4))) (Lib.law_pool_1 ifg il it)) ⟨[.ref c, .val (.int v), .un, .un, .un, .un], cs⟩ Q := fun m v c hc hm =>
    pool_1 d (hc.le hm) fun c' is rho h1 h2 h3 => q _ _ _ _ h1 (Nat.le_refl _) rfl ⟨is, rfl, h2, h3⟩
  simp [Lib.law_pool]
  refine W_dr (d.lowd) rfl rfl hc (by omega) rfl ?_
  rintro c1 _ hc1 ⟨w, rfl, w0⟩ -
  simp
  refine W_dr (d.tk 16 (by omega) (by omega)) rfl rfl hc1 (by omega) rfl ?_
  rintro c2 _ hc2 ⟨x, rfl, x0, x1⟩ -
  simp
  split
  · refine W_dr (d.tk 30 (by omega) (by omega)) rfl rfl hc2 (by omega) rfl ?_
    rintro c3 _ hc3 ⟨y, rfl, y0, y1⟩ -
    simp
    refine W_dr (d.figd _ (by omega) (by omega)) rfl rfl hc3 (by omega) rfl ?_
    rintro c4 _ hc4 ⟨z, rfl, z0⟩ -
    simp
    exact f1 _ _ _ hc4 (by omega)
  · exact f1 _ _ _ hc2 (by omega)
end
/-! ### alike, the same -/
/-- the parts of a thing -/
def kids : D → List D
  | .lst ds => ds
  | .tup ds => ds
  | _ => []
/-- how many parts a thing has, and theirs, d deep -/
def weigh : Nat → D → Nat
  | 0, _ => 1
  | n + 1, d => 1 + ((kids d).map (weigh n)).sum
section
variable {p : Prog} {k il : Nat}
theorem like_p {i n : Nat} {x : D} (hF : p.fns[i]? = some ⟨2, 2, Lib.law_like⟩) (hx : plain n x = true) (hn : n ≤ 60) (hl : (kids x).length ≤ 16777216) : PureSp p (k + 2) i [x, x] (fun r => r = .val (.bl true)) := by
  refine PureSp.mk_ hF rfl fun cs Q q _ => ?_
  have e := eqD_plain hx hx (by omega) (by omega)
  cases x
  case lst ds =>
    simp only [kids] at hl
    simp [Lib.law_like, hl]
    exact q _ _ rfl rfl
  case tup ds =>
    simp only [kids] at hl
    simp [Lib.law_like, hl]
    exact q _ _ rfl rfl
  case str s =>
    simp only [decide_true] at e
    simp [Lib.law_like, e]
    exact q _ _ rfl rfl
  all_goals
    simp [Lib.law_like] at hx ⊢
    try exact q _ _ rfl rfl
theorem weigh_kids {m : Nat} : ∀ ys : List D, (ys.map (weigh (m + 1))).sum = ys.length + ((ys.flatMap kids).map (weigh m)).sum
  | [] => rfl
  | y :: ys => by
    rw [List.map_cons, List.sum_cons, weigh_kids ys]
    simp only [List.length_cons, List.flatMap_cons, List.map_append, List.sum_append, weigh]
    omega
theorem weigh_len {m : Nat} : ∀ ys : List D, ys.length ≤ (ys.map (weigh m)).sum
  | [] => Nat.le_refl _
  | y :: ys => by
    have h := weigh_len (m := m) ys
    have : 1 ≤ weigh m y := by cases m <;> simp [weigh]
    simp only [List.map_cons, List.sum_cons, List.length_cons]
    omega
theorem kids_plain {m : Nat} {y : D} (h : plain (m + 1) y = true) : (kids y).all (plain m) = true := by
  cases y <;> simp [kids] at h ⊢ <;> exact h
theorem kids_plain0 {y : D} (h : plain 0 y = true) : kids y = [] := by
  cases y <;> simp [kids] at h ⊢
def pairs (ys : List D) : List D := ys.map fun y => .tup [y, y]
theorem same_2 {i : Nat} {cs : List Inst} {Q : Flow → Sg → Prop} {n : Nat} {s0 s1 s2 s3 : Sl} {x : D} {zs : List D} {r7 : Dead} (hF : p.fns[i]? = some ⟨2, 2, Lib.law_like⟩) (hx : plain n x = true) (hn : n ≤ 60) (hl : zs.length + (kids x).length < 16777216)
    (q : ∀ r7 : Dead, Q .next ⟨[s0, s1, s2, s3, .own (.lst (pairs (zs ++ kids x))), .val x, .val x, r7.1], cs⟩) :
    W (exs (p.pg (run p (k + 2)) (run p (k + 1))) (Lib.law_same_2 i)) ⟨[s0, s1, s2, s3, .own (.lst (pairs zs)), .val x, .val x, r7.1], cs⟩ Q := by
  have loop : ∀ ds (Q : Flow → Sg → Prop), (x = .lst ds ∨ x = .tup ds) → (∀ r7 : Dead, Q .next ⟨[s0, s1, s2, s3, .own (.lst (pairs (zs ++ kids x))), .val x, .val x, r7.1], cs⟩) → Rg (ds.length : Int) fun es => W (loopS (.nm 7) (exs (p.pg (run p (k + 2)) (run p (k + 1))) (Lib.law_same_3 i)) es) ⟨[s0, s1, s2, s3, .own (.lst (pairs zs)), .val x, .val x, r7.1], cs⟩ Q := by
    intro ds Q hd q
    have hk : kids x = ds := by rcases hd with rfl | rfl <;> rfl
    rw [hk] at hl q
    have hline : line = 16777216 := rfl
    refine W_rng (fun j g => ∃ r7 : Dead, g = ⟨[s0, s1, s2, s3, .own (.lst (pairs (zs ++ ds.take j))), .val x, .val x, r7.1], cs⟩) ⟨r7, by simp⟩ (by omega) (by omega) ?_ ?_
    · rintro j g R hj ⟨r7, rfl⟩ hn - - -
      have hj' : j < ds.length := by omega
      have e : pairs (zs ++ ds.take j) ++ [.tup [ds[j], ds[j]]] = pairs (zs ++ ds.take (j + 1)) := by
        rw [List.take_add_one, List.getElem?_eq_getElem hj']
        simp only [pairs, List.map_append, List.append_assoc, Option.toList_some, List.map_cons, List.map_nil]
      have hll : (pairs (zs ++ ds.take j)).length < 16777216 := by simp [pairs]; omega
      have h2 : 2 ≤ 16777216 := by omega
      rcases hd with rfl | rfl
      all_goals
        generalize pairs (zs ++ ds.take j) = us at *
        simp [Lib.law_same_3, hj', hll]
        rw [e]
        exact hn _ ⟨.v (.int j), rfl⟩
    · rintro g ⟨r7, rfl⟩
      simp
      exact q r7
  have hlen : (kids x).length ≤ 16777216 := by omega
  simp [Lib.law_same_2]
  refine W_pu (like_p hF hx hn hlen) rfl rfl ?_
  rintro _ rfl -
  have fin : kids x = [] → Q .next ⟨[s0, s1, s2, s3, .own (.lst (pairs zs)), .val x, .val x, r7.1], cs⟩ := by
    intro e
    rw [e] at q
    simpa using q r7
  cases x
  case lst ds =>
    simp only [kids] at hlen
    simp [hlen]
    refine loop ds _ (.inl rfl) fun r7 => ?_
    simpa using q r7
  case tup ds =>
    simp only [kids] at hlen
    simp [hlen]
    refine loop ds _ (.inr rfl) fun r7 => ?_
    simpa using q r7
  all_goals
    simp at hx ⊢
    try exact fin rfl
theorem same_p {i j n : Nat} {x : D} (hF : p.fns[i]? = some ⟨2, 8, Lib.law_same j⟩) (hj : p.fns[j]? = some ⟨2, 2, Lib.law_like⟩) (hx : plain n x = true) (hn : n ≤ 60) (hw : weigh n x < 16777216) : PureSp p (k + 3) i [x, x] (fun r => r = .val (.bl true)) := by
  refine PureSp.mk_ (k := k + 1) hF rfl fun cs Q q _ => ?_
  have hline : line = 16777216 := rfl
  simp [Lib.law_same]
  refine W_rng (fun j g => j ≤ n ∧ ∃ (ys : List D) (r3 r4 r5 r6 r7 : Dead), g = ⟨[.val x, .val x, .val (.lst (pairs ys)), r3.1, r4.1, r5.1, r6.1, r7.1], cs⟩ ∧ ys.all (plain (n - j)) = true ∧ (ys.map (weigh (n - j))).sum < line) ?_ (by omega) (by omega) ?_ ?_
  · exact ⟨Nat.zero_le _, [x], .un, .un, .un, .un, .un, rfl, by simpa using hx, by simpa using hw⟩
  · rintro d g R hd ⟨hdn, ys, r3, r4, r5, r6, r7, rfl, hp, hs⟩ hN - - hR
    have hkl : (ys.flatMap kids).length < 16777216 := by
      cases e : n - d with
      | zero =>
        rw [e] at hp
        have : ys.flatMap kids = [] := by
          rw [List.flatMap_eq_nil_iff]
          intro y hy
          exact kids_plain0 (List.all_eq_true.mp hp y hy)
        rw [this]; simp [hline]
      | succ m =>
        rw [e, weigh_kids] at hs
        have := weigh_len (m := m) (ys.flatMap kids)
        omega
    simp [Lib.law_same_1]
    refine W_lp (fun i g => ∃ r5 r6 r7 : Dead, g = ⟨[.val x, .val x, .val (.lst (pairs ys)), .val (.int d), .own (.lst (pairs ((ys.take i).flatMap kids))), r5.1, r6.1, r7.1], cs⟩) ⟨r5, r6, r7, by simp [pairs]⟩ ?_ ?_
    · rintro i e g R2 hi ⟨r5, r6, r7, rfl⟩ hn - - -
      unfold pairs at hi
      rw [List.getElem?_map] at hi
      obtain ⟨y, hy, rfl⟩ := Option.map_eq_some_iff.mp hi
      have hy2 := List.getElem?_eq_some_iff.mp hy
      obtain ⟨hil, hyi⟩ := hy2
      have hpy : plain (n - d) y = true := List.all_eq_true.mp hp y (List.mem_of_getElem? hy)
      have e2 : (ys.take i).flatMap kids ++ kids y = (ys.take (i + 1)).flatMap kids := by
        simp [List.take_add_one, hy]
      have hle : ((ys.take (i + 1)).flatMap kids).length ≤ (ys.flatMap kids).length := by
        conv => rhs; rw [← List.take_append_drop (i + 1) ys]
        rw [List.flatMap_append, List.length_append]
        omega
      have hle2 : ((ys.take i).flatMap kids).length + (kids y).length < 16777216 := by
        rw [← List.length_append, e2]; omega
      simp
      refine same_2 (k := k) hj hpy (by omega) hle2 ?_
      intro r7
      rw [e2]
      exact hn _ ⟨.v y, .v y, r7, by simp⟩
    · rintro g ⟨r5, r6, r7, rfl⟩
      have e3 : (pairs ys).length = ys.length := by simp [pairs]
      rw [e3, List.take_length]
      have hz : ∀ m, n - d = m + 1 → (ys.flatMap kids).all (plain m) = true ∧ ((ys.flatMap kids).map (weigh m)).sum < 16777216 := by
        intro m e
        rw [e] at hp
        rw [e, weigh_kids] at hs
        refine ⟨?_, by omega⟩
        rw [List.all_eq_true]
        intro z hz
        obtain ⟨y, hy, hz⟩ := List.mem_flatMap.mp hz
        exact List.all_eq_true.mp (kids_plain (List.all_eq_true.mp hp y hy)) z hz
      have h0 : n - d = 0 → ys.flatMap kids = [] := by
        intro e
        rw [e] at hp
        rw [List.flatMap_eq_nil_iff]
        intro y hy
        exact kids_plain0 (List.all_eq_true.mp hp y hy)
      generalize ys.flatMap kids = zs at *
      have h4 : (pairs zs).length = zs.length := by simp [pairs]
      simp [Lib.law_same_4, h4, Nat.le_of_lt hkl]
      split
      · exact hR _ _ (q _ _ rfl rfl)
      · rename_i hne
        cases e : n - d with
        | zero => exact absurd (h0 e) hne
        | succ m =>
          have e5 : n - (d + 1) = m := by omega
          exact hN _ ⟨by omega, zs, .v (.int d), .o (.lst (pairs zs)), r5, r6, r7, by simp, by rw [e5]; exact (hz m e).1, by rw [e5]; exact (hz m e).2⟩
  · rintro g ⟨h, _⟩
    simp at h
    omega
end
end Iv
set_option linter.all false
set_option autoImplicit false
set_option maxRecDepth 100000
set_option maxHeartbeats 2000000
/-! Lx3: comprehensions. -/
namespace Iv
open PySem (Str Expr Stmt CmpOp Operator BoolOp PyData)
theorem Rg_of {hi : Int} {K : List D → Prop} (h3 : -4611686018427387904 ≤ hi) (h4 : hi < 4611686018427387904) (h : ∀ ds, rngD 0 hi = some ds → ds.length = hi.toNat → (∀ (j : Nat) d, ds[j]? = some d → d = .int j ∧ (j : Int) < hi) → K ds) : Rg hi K := by
  rw [Rg_eq]
  obtain ⟨ds, e⟩ := rng_some (lo := 0) (by omega) (by omega) h3 h4
  rw [e, G_some]
  refine h ds e (by rw [rng_len e, Int.sub_zero]) ?_
  intro j d hd
  obtain ⟨rfl, hlt⟩ := rng_get e hd
  rw [Int.zero_add] at hlt ⊢
  exact ⟨rfl, hlt⟩
theorem W_lcp {P : Pg} {tg : Tg} {cnd : Ts} {e : T} {ds : List D} {g : Sg} {Q : List D → Sg → Prop} (I : Nat → List D → Sg → Prop) (h : I 0 [] g)
    (step : ∀ (j : Nat) d acc g (R : Option D → Sg → Prop), ds[j]? = some d → I j acc g → (∀ y g, acc.length < line → I (j + 1) (acc ++ [y]) g → R (some y) g) → (∀ g, I (j + 1) acc g → R none g) →
      G (bindTg tg d g) fun g1 => W (conds P cnd) g1 fun b g2 => if b = true then W (ev P e) g2 fun r g3 => G r.take fun y => R (some y) { g3 with rho := wipeS g3.rho tg.slots } else R none { g2 with rho := wipeS g2.rho tg.slots })
    (hd : ∀ acc g, I ds.length acc g → Q acc g) : W (loopC (turnC P tg cnd e) [] ds) g Q := by
  have := W_loopC (f := turnC P tg cnd e) (Q := Q) I ds 0 [] g (Nat.zero_le _) h ?_ hd
  · rwa [List.drop_zero] at this
  · intro i d acc g hi hI
    rw [W_turn]
    exact step i d acc g (fun r g1 => match r with | some y => acc.length < line ∧ I (i + 1) (acc ++ [y]) g1 | none => I (i + 1) acc g1) hi hI (fun y g h1 h2 => ⟨h1, h2⟩) (fun g h => h)
@[simp] theorem wipe_nil {rho : List Sl} : wipeS rho [] = rho := (rfl)
@[simp] theorem wipe_cons {rho : List Sl} {i : Nat} {is : List Nat} : wipeS rho (i :: is) = (wipeS rho is).set i .un := (rfl)
@[simp] theorem back_nil {old rho : List Sl} : backS old rho [] = rho := (rfl)
@[simp] theorem back_cons {old rho : List Sl} {i : Nat} {is : List Nat} : backS old rho (i :: is) = (backS old rho is).set i (old.getD i .un) := (rfl)
@[simp] theorem slots_nm {i : Nat} : Tg.slots (.nm i) = [i] := (rfl)
@[simp] theorem slots_tup {is : List Nat} : Tg.slots (.tup is) = is := (rfl)
end Iv
set_option linter.all false
set_option autoImplicit false
set_option maxRecDepth 100000
set_option maxHeartbeats 2000000
/-! Lx4: methods. -/
namespace Iv
open PySem (Str Expr Stmt CmpOp Operator BoolOp PyData)
/-- a method at the instance n, which it makes I' of I -/
def MethSp (p : Prog) (k f n : Nat) (as : List D) (I I' : Inst) (Post : Res → Prop) : Prop :=
  ∀ cs : List Inst, cs[n]? = some I → Cl (run p k) f (.v (.cell n) :: as.map .v) cs fun r outs cs' => outs = [] ∧ cs' = cs.set n I' ∧ nb r = true ∧ Post r
section
variable {p : Prog} {P : Pg} {k f n : Nat} {as : List D} {I I' : Inst} {Post : Res → Prop}
theorem W_me (h : MethSp p k f n as I I' Post) {g : Sg} {xs : List Ar} {Q : Res → Sg → Prop} (hP : P.call = run p k) (hx : xs = as.map Ar.v) (hI : g.cs[n]? = some I) (q : ∀ r, Post r → nb r = true → Q r { g with cs := g.cs.set n I' }) : W (callM P f (.v (.cell n) :: xs)) g Q := by
  subst hx
  refine W_callM (xs := .v (.cell n) :: as.map Arg.v) ?_ ?_ ?_ ?_
  · simp [argsOf, Ar.arg, argsOf_v]
  · simp [hasLent, hasLent_v]
  · simp [refsOf, refsOf_v]
  rw [hP]
  refine Cl_mono (h g.cs hI) ?_
  rintro r o cs' ⟨rfl, rfl, hn, hr⟩
  refine ⟨hn, ?_⟩
  obtain ⟨rho, cs⟩ := g
  simp [refsOf, refsOf_v]
  exact q r hr hn
theorem MethSp.mk_ {F : Fn} (hF : p.fns[f]? = some F) (hl : as.length + 1 = F.np)
    (h : ∀ (cs : List Inst) (Q : Flow → Sg → Prop), cs[n]? = some I → (∀ r rho, nb r = true → Post r → Q (.ret r) ⟨rho, cs.set n I'⟩) → (∀ rho, Post (.val .non) → Q .next ⟨rho, cs.set n I'⟩) →
      W (exs (p.pg (run p (k + 1)) (run p k)) F.body) ⟨initRho F.nn (.v (.cell n) :: as.map .v), cs⟩ Q) : MethSp p (k + 2) f n as I I' Post := by
  intro cs hI
  refine Cl_fn hF (by simpa using hl) (h cs _ hI ?_ ?_)
  · intro r rho h2 h3
    simp [outsOf_v]
    exact ⟨h2, h3⟩
  · intro rho h3
    simp [outsOf_v]
    exact h3
end
/-- a call of __init__ -/
theorem W_init {p : Prog} {P : Pg} {k f : Nat} {rho : List Sl} {cs1 cs2 : List Inst} {xs : List D} {ys : List Ar} {a : Ar} {n : Nat} {Q : Res → Sg → Prop} (h : Cl (run p k) f (.v (.cell n) :: xs.map .v) cs1 fun r outs cs' => outs = [] ∧ cs' = cs2 ∧ r = .val .non) (hP : P.call = run p k) (hx : a :: ys = .v (.cell n) :: xs.map Ar.v)
    (q : Q (.val .non) ⟨rho, cs2⟩) : W (callM P f (a :: ys)) ⟨rho, cs1⟩ Q := by
  rw [hx]
  refine W_callM (xs := .v (.cell n) :: xs.map Arg.v) ?_ ?_ ?_ ?_
  · simp [argsOf, Ar.arg, argsOf_v]
  · simp [hasLent, hasLent_v]
  · simp [refsOf, refsOf_v]
  rw [hP]
  refine Cl_mono h ?_
  rintro r o cs' ⟨rfl, rfl, rfl⟩
  refine ⟨rfl, ?_⟩
  simp [refsOf, refsOf_v]
  exact q
/-- a law ends in True -/
theorem law_mk {p : Prog} {k f : Nat} {F : Fn} {ns : List Int} (hF : p.fns[f]? = some F) (hl : 1 = F.np)
    (h : ∀ Q : Flow → Sg → Prop, (∀ g, Q (.ret (.val (.bl true))) g) → W (exs (p.pg (run p (k + 1)) (run p k)) F.body) ⟨initRho F.nn [.v (.scr ns)], []⟩ Q) :
    ∃ cs, run p (k + 2) f [.v (.scr ns)] [] = some (.ok (.val (.bl true)), [], cs) := by
  have : Cl (run p (k + 2)) f [.v (.scr ns)] [] fun r outs _ => r = .val (.bl true) ∧ outs = [] := Cl_fn hF hl (h _ fun g => ⟨rfl, rfl⟩)
  unfold Cl at this
  split at this
  · rename_i r outs cs' e
    obtain ⟨rfl, rfl⟩ := this
    exact ⟨cs', e⟩
  · exact this.elim
end Iv
set_option linter.all false
set_option maxRecDepth 100000
namespace K25
open PySem Iv
/-! ### the program in the small syntax -/
def b_Tally_init : Ss := (.cons (.setAttr (.nm 0) "open_groups" (.dict0 true))
    .nil)
def b_Tally_contains : Ss := (.cons (.ret (.cmp .In (.b1 .tuple (.nm 1)) (.attr (.nm 0) "open_groups")))
    .nil)
def b_Tally_put : Ss := (.cons (.asg (.tup [3, 4]) true (.omet "Tally" (.nm 0) "tallied" (.cons (.nm 1) .nil) []))
    (.cons (.setSub (.attr (.nm 0) "open_groups") (.b1 .tuple (.nm 1)) (.tup (.cons (.bin .Add (.nm 3) (.int 1)) (.cons (.bin .Add (.nm 4) (.nm 2)) .nil))))
    .nil))
def b_Tally_groups : Ss := (.cons (.ret (.b1 .sorted (.b1 .list (.attr (.nm 0) "open_groups"))))
    .nil)
def b_Tally_tallied : Ss := (.cons (.ret (.meth .dget (.attr (.nm 0) "open_groups") (.cons (.b1 .tuple (.nm 1)) (.cons (.tup (.cons (.int 0) (.cons (.int 0) .nil))) .nil))))
    .nil)
def b_Tally_close : Ss := (.cons (.asg (.nm 2) true (.omet "Tally" (.nm 0) "tallied" (.cons (.nm 1) .nil) []))
    (.cons (.expr (.meth .dpop (.attr (.nm 0) "open_groups") (.cons (.b1 .tuple (.nm 1)) (.cons .non .nil))))
    (.cons (.ret (.nm 2))
    .nil)))
def b_Tally_load : Ss := (.cons (.setSub (.attr (.nm 0) "open_groups") (.b1 .tuple (.nm 1)) (.tup (.cons (.nm 2) (.cons (.nm 3) .nil))))
    .nil)
abbrev b_law_store : Ss := Lib.law_store 
abbrev b_law_next : Ss := Lib.law_next 
abbrev b_law_mix : Ss := Lib.law_mix 
abbrev b_law_take : Ss := Lib.law_take 9 8
abbrev b_law_pick : Ss := Lib.law_pick 10
abbrev b_law_figures : Ss := Lib.law_figures 10
abbrev b_law_low : Ss := Lib.law_low 11
abbrev b_law_pool : Ss := Lib.law_pool 12 13 10
def b_law_value : Ss := (.cons (.asg (.nm 2) true (.call 10 (.cons (.rf 0) (.cons (.int 8) .nil)) []))
    (.cons (.ite (.cmp .Lt (.nm 2) (.int 5)) (.cons (.ret (.call 11 (.cons (.rf 0) (.cons (.nm 1) .nil)) []))
    .nil) .nil)
    (.cons (.ite (.cmp .Eq (.nm 2) (.int 5)) (.cons (.ret (.bin .Sub (.bin .Add (.call 11 (.cons (.rf 0) (.cons (.nm 1) .nil)) []) (.int 1)) (.bin .Mult (.int 2) (.call 10 (.cons (.rf 0) (.cons (.int 2) .nil)) []))))
    .nil) .nil)
    (.cons (.ite (.bop .Or (.cons (.cmp .Eq (.nm 2) (.int 6)) (.cons (.cmp .Gt (.call 10 (.cons (.rf 0) (.cons (.int 4) .nil)) []) (.int 0)) .nil))) (.cons (.ret (.call 13 (.cons (.rf 0) .nil) []))
    .nil) .nil)
    (.cons (.ret (.call 12 (.cons (.rf 0) (.cons (.bin .Add (.int 1) (.call 10 (.cons (.rf 0) (.cons (.int 40) .nil)) [])) .nil)) []))
    .nil)))))
abbrev b_law_vast : Ss := Lib.law_vast 10
def b_law_size : Ss := (.cons (.ite (.cmp .Eq (.call 10 (.cons (.rf 0) (.cons (.int 32) .nil)) []) (.int 31)) (.cons (.ret (.int 30))
    .nil) .nil)
    (.cons (.ret (.call 11 (.cons (.rf 0) (.cons (.lst (.cons (.int 7) (.cons (.int 9) (.cons (.int 5) (.cons (.int 11) (.cons (.int 8) (.cons (.int 14) (.cons (.int 3) (.cons (.int 0) (.cons (.int 10) (.cons (.int 6) (.cons (.int 12) (.cons (.int 1) (.cons (.int 8) (.cons (.int 9) (.cons (.int 4) (.cons (.int 13) .nil))))))))))))))))) .nil)) []))
    .nil))
abbrev b_law_like : Ss := Lib.law_like 
abbrev b_law_same : Ss := Lib.law_same 18
/-- return told -/
def b_law_menu_5 : Ss := (.cons (.ret (.mv 5))
    .nil)
/-- if tuple(values) not in  -/
def b_law_menu_4 : Ss := (.cons (.ite (.cmp .NotIn (.b1 .tuple (.nm 7)) (.nm 5)) (.cons (.expr (.meth .append (.nm 5) (.cons (.b1 .tuple (.nm 7)) .nil)))
    .nil) .nil)
    .nil)
/-- if size > 0 and _law_tak -/
def b_law_menu_3 : Ss := (.cons (.ite (.bop .And (.cons (.cmp .Gt (.nm 2) (.int 0)) (.cons (.cmp .Eq (.call 10 (.cons (.rf 0) (.cons (.int 24) .nil)) []) (.int 23)) .nil))) (.cons (.setSub (.nm 7) (.call 10 (.cons (.rf 0) (.cons (.nm 2) .nil)) []) (.call 16 (.cons (.rf 0) .nil) []))
    .nil) .nil) b_law_menu_4)
/-- values = [_law_value(sto -/
def b_law_menu_2 : Ss := (.cons (.asg (.nm 7) false (.lc (.nm 8) (.rng1 (.nm 2)) .nil (.call 15 (.cons (.rf 0) (.cons (.nm 3) .nil)) [])))
    (.cons (.ite (.bop .And (.cons (.cmp .Gt (.nm 2) (.int 0)) (.cons (.nm 1) .nil))) (.cons (.setSub (.nm 7) (.int 0) (.bin .Add (.sub (.nm 7) (.int 0)) (.nm 6)))
    .nil) .nil) b_law_menu_3))
/-- told = [] -/
def b_law_menu_1 : Ss := (.cons (.asg (.nm 5) false (.lst .nil))
    (.cons (.for_ (.nm 6) (.rng1 (.nm 4)) b_law_menu_2) b_law_menu_5))
def b_law_menu : Ss := (.cons (.asg (.nm 2) true (.call 11 (.cons (.rf 0) (.cons (.lst (.cons (.int 1) (.cons (.int 2) (.cons (.int 1) (.cons (.int 0) (.cons (.int 3) (.cons (.int 4) (.cons (.int 2) (.cons (.int 1) .nil))))))))) .nil)) []))
    (.cons (.asg (.nm 3) true (.call 14 (.cons (.rf 0) .nil) []))
    (.cons (.asg (.nm 4) true (.bin .Add (.int 1) (.call 10 (.cons (.rf 0) (.cons (.int 5) .nil)) [])))
    (.cons (.ite (.nm 1) (.cons (.asg (.nm 4) true (.int 60))
    .nil) .nil) b_law_menu_1))))
def b_law_amount : Ss := (.cons (.asg (.nm 1) true (.call 10 (.cons (.rf 0) (.cons (.int 8) .nil)) []))
    (.cons (.ite (.cmp .Eq (.nm 1) (.int 0)) (.cons (.ret (.int 0))
    .nil) .nil)
    (.cons (.ite (.cmp .Eq (.nm 1) (.int 1)) (.cons (.ret (.call 12 (.cons (.rf 0) (.cons (.bin .Add (.int 1) (.call 10 (.cons (.rf 0) (.cons (.int 60) .nil)) [])) .nil)) []))
    .nil) .nil)
    (.cons (.ite (.bop .And (.cons (.cmp .Eq (.nm 1) (.int 2)) (.cons (.cmp .Eq (.call 10 (.cons (.rf 0) (.cons (.int 4) .nil)) []) (.int 0)) .nil))) (.cons (.ret (.call 16 (.cons (.rf 0) .nil) []))
    .nil) .nil)
    (.cons (.ite (.cmp .Lt (.nm 1) (.int 5)) (.cons (.ret (.bin .Sub (.int 0) (.call 13 (.cons (.rf 0) .nil) [])))
    .nil) .nil)
    (.cons (.ret (.call 13 (.cons (.rf 0) .nil) []))
    .nil))))))
/-- return (count, total) -/
def b_law_found_4 : Ss := (.cons (.ret (.tup (.cons (.nm 2) (.cons (.nm 3) .nil))))
    .nil)
/-- if way == 'load': -/
def b_law_found_3 : Ss := (.cons (.ite (.cmp .Eq (.nm 5) (.str "load")) (.cons (.asg (.nm 2) true (.nm 8))
    (.cons (.asg (.nm 3) true (.nm 7))
    .nil)) .nil)
    .nil)
/-- if way == 'close': -/
def b_law_found_2 : Ss := (.cons (.ite (.cmp .Eq (.nm 5) (.str "close")) (.cons (.asg (.nm 2) true (.int 0))
    (.cons (.asg (.nm 3) true (.int 0))
    .nil)) .nil) b_law_found_3)
/-- if group == values: -/
def b_law_found_1 : Ss := (.cons (.ite (.cmp .Eq (.nm 6) (.nm 1)) (.cons (.ite (.cmp .Eq (.nm 5) (.str "put")) (.cons (.asg (.nm 2) true (.bin .Add (.nm 2) (.int 1)))
    (.cons (.asg (.nm 3) true (.bin .Add (.nm 3) (.nm 7)))
    .nil)) .nil) b_law_found_2) .nil)
    .nil)
def b_law_found : Ss := (.cons (.asg (.nm 2) true (.int 0))
    (.cons (.asg (.nm 3) true (.int 0))
    (.cons (.for_ (.tup [4, 5, 6, 7, 8]) (.seq (.nm 0)) b_law_found_1) b_law_found_4)))
/-- return True -/
def b_law_state_2 : Ss := (.cons (.ret (.bl true))
    .nil)
/-- if (values in tally) !=  -/
def b_law_state_1 : Ss := (.cons (.ite (.cmp .NotEq (.ocon "Tally" (.nm 4) (.nm 0)) (.cmp .In (.nm 4) (.nm 3))) (.cons (.ret (.bl false))
    .nil) .nil)
    (.cons (.ite (.not (.call 19 (.cons (.omet "Tally" (.nm 0) "tallied" (.cons (.nm 4) .nil) []) (.cons (.call 22 (.cons (.nm 1) (.cons (.nm 4) .nil)) []) .nil)) [])) (.cons (.ret (.bl false))
    .nil) .nil)
    .nil))
def b_law_state : Ss := (.cons (.asg (.nm 3) true (.b1 .sorted (.lc (.nm 4) (.seq (.nm 2)) (.cons (.cmp .Gt (.sub (.call 22 (.cons (.nm 1) (.cons (.nm 4) .nil)) []) (.int 0)) (.int 0)) .nil) (.nm 4))))
    (.cons (.asg (.nm 5) false (.omet "Tally" (.nm 0) "groups" .nil []))
    (.cons (.ite (.not (.call 19 (.cons (.ln 5) (.cons (.nm 3) .nil)) [])) (.cons (.ret (.bl false))
    .nil) .nil)
    (.cons (.expr (.meth .append (.nm 5) (.cons (.tup (.cons (.int 5) .nil)) .nil)))
    (.cons (.setSub (.nm 5) (.int 0) (.tup .nil))
    (.cons (.ite (.not (.call 19 (.cons (.omet "Tally" (.nm 0) "groups" .nil []) (.cons (.nm 3) .nil)) [])) (.cons (.ret (.bl false))
    .nil) .nil)
    (.cons (.for_ (.nm 4) (.seq (.nm 2)) b_law_state_1) b_law_state_2)))))))
def b_law_deed : Ss := (.cons (.asg (.tup [3, 4, 5, 6, 7]) true (.nm 2))
    (.cons (.ite (.cmp .Eq (.nm 4) (.str "put")) (.cons (.ret (.cmp .Is (.omet "Tally" (.nm 0) "put" (.cons (.nm 5) (.cons (.nm 6) .nil)) []) .non))
    .nil) .nil)
    (.cons (.ite (.cmp .Eq (.nm 4) (.str "load")) (.cons (.ret (.cmp .Is (.omet "Tally" (.nm 0) "load" (.cons (.nm 5) (.cons (.nm 7) (.cons (.nm 6) .nil))) []) .non))
    .nil) .nil)
    (.cons (.ret (.call 19 (.cons (.omet "Tally" (.nm 0) "close" (.cons (.nm 5) .nil) []) (.cons (.call 22 (.cons (.nm 1) (.cons (.nm 5) .nil)) []) .nil)) []))
    .nil))))
/-- return deeds -/
def b_law_deeds_2 : Ss := (.cons (.ret (.mv 3))
    .nil)
/-- which = _law_take(store, -/
def b_law_deeds_1 : Ss := (.cons (.asg (.nm 5) true (.call 10 (.cons (.rf 0) (.cons (.int 2) .nil)) []))
    (.cons (.asg (.nm 6) true (.slc (.sub (.nm 1) (.nm 5)) .absent (.b2 .max (.int 1) (.bin .Sub (.b1 .len (.sub (.nm 1) (.nm 5))) (.int 1)))))
    (.cons (.asg (.nm 7) true (.call 11 (.cons (.rf 0) (.cons (.lst (.cons (.str "put") (.cons (.str "put") (.cons (.str "load") (.cons (.str "put") (.cons (.str "close") (.cons (.str "put") .nil))))))) .nil)) []))
    (.cons (.asg (.nm 8) true (.call 21 (.cons (.rf 0) .nil) []))
    (.cons (.asg (.nm 9) true (.call 11 (.cons (.rf 0) (.cons (.lst (.cons (.int 1) (.cons (.int 2) (.cons (.int 3) (.cons (.int 1) (.cons (.int 7) (.cons (.bin .Add (.b1 .abs (.nm 8)) (.int 1)) .nil))))))) .nil)) []))
    (.cons (.expr (.meth .append (.nm 3) (.cons (.tup (.cons (.nm 5) (.cons (.nm 7) (.cons (.call 11 (.cons (.rf 0) (.cons (.nm 6) .nil)) []) (.cons (.nm 8) (.cons (.nm 9) .nil)))))) .nil)))
    .nil))))))
def b_law_deeds : Ss := (.cons (.asg (.nm 3) false (.lst .nil))
    (.cons (.for_ (.nm 4) (.rng1 (.nm 2)) b_law_deeds_1) b_law_deeds_2))
/-- if not _law_state(Tally( -/
def b_law_5 : Ss := (.cons (.ite (.not (.call 23 (.cons (.mk "Tally" .nil []) (.cons (.lst .nil) (.cons (.sub (.nm 3) (.int 0)) .nil))) [])) (.cons (.ret (.bl false))
    .nil) .nil)
    (.cons (.ret (.bop .And (.cons (.call 23 (.cons (.sub (.nm 6) (.int 0)) (.cons (.sub (.nm 7) (.int 0)) (.cons (.sub (.nm 3) (.int 0)) .nil))) []) (.cons (.call 23 (.cons (.sub (.nm 6) (.int 1)) (.cons (.sub (.nm 7) (.int 1)) (.cons (.sub (.nm 3) (.int 1)) .nil))) []) .nil))))
    .nil))
/-- if not _law_state(tallie -/
def b_law_4 : Ss := (.cons (.ite (.not (.call 23 (.cons (.sub (.nm 6) (.nm 10)) (.cons (.sub (.nm 7) (.nm 10)) (.cons (.sub (.nm 3) (.nm 10)) .nil))) [])) (.cons (.ret (.bl false))
    .nil) .nil)
    .nil)
/-- which = deeds[k][0] -/
def b_law_3 : Ss := (.cons (.asg (.nm 9) true (.sub (.sub (.nm 5) (.nm 8)) (.int 0)))
    (.cons (.ite (.not (.call 24 (.cons (.sub (.nm 6) (.nm 9)) (.cons (.sub (.nm 7) (.nm 9)) (.cons (.sub (.nm 5) (.nm 8)) .nil))) [])) (.cons (.ret (.bl false))
    .nil) .nil)
    (.cons (.setSub (.nm 7) (.nm 9) (.bin .Add (.sub (.nm 7) (.nm 9)) (.lst (.cons (.sub (.nm 5) (.nm 8)) .nil))))
    (.cons (.ite (.bop .Or (.cons (.not (.nm 2)) (.cons (.cmp .Eq (.bin .Mod (.b1 .int (.nm 8)) (.int 8)) (.int 7)) .nil))) (.cons (.for_ (.nm 10) (.rng1 (.int 2)) b_law_4)
    .nil) .nil)
    .nil))))
/-- deeds = _law_deeds(store -/
def b_law_2 : Ss := (.cons (.asg (.nm 5) true (.call 25 (.cons (.rf 1) (.cons (.nm 3) (.cons (.nm 4) .nil))) []))
    (.cons (.asg (.nm 6) true (.lst (.cons (.mk "Tally" .nil []) (.cons (.mk "Tally" .nil []) .nil))))
    (.cons (.asg (.nm 7) false (.lst (.cons (.lst .nil) (.cons (.lst .nil) .nil))))
    (.cons (.for_ (.nm 8) (.rng1 (.b1 .len (.nm 5))) b_law_3) b_law_5))))
/-- many = _law_size(store) -/
def b_law_1 : Ss := (.cons (.asg (.nm 4) true (.call 17 (.cons (.rf 1) .nil) []))
    (.cons (.ite (.nm 2) (.cons (.asg (.nm 4) true (.int 62))
    .nil) .nil) b_law_2))
def b_law : Ss := (.cons (.asg (.nm 1) false (.call 7 (.cons (.nm 0) .nil) []))
    (.cons (.asg (.nm 2) true (.cmp .Eq (.call 10 (.cons (.rf 1) (.cons (.int 16) .nil)) []) (.int 15)))
    (.cons (.asg (.nm 3) true (.lst (.cons (.call 20 (.cons (.rf 1) (.cons (.nm 2) .nil)) []) (.cons (.call 20 (.cons (.rf 1) (.cons (.bl false) .nil)) []) .nil))))
    (.cons (.ite (.cmp .Eq (.call 10 (.cons (.rf 1) (.cons (.int 2) .nil)) []) (.int 0)) (.cons (.asg (.nm 3) true (.lst (.cons (.sub (.nm 3) (.int 0)) (.cons (.sub (.nm 3) (.int 0)) .nil))))
    .nil) .nil) b_law_1))))
abbrev f_Tally_init : Fn := ⟨1, 1, b_Tally_init⟩
abbrev f_Tally_contains : Fn := ⟨2, 2, b_Tally_contains⟩
abbrev f_Tally_put : Fn := ⟨3, 5, b_Tally_put⟩
abbrev f_Tally_groups : Fn := ⟨1, 1, b_Tally_groups⟩
abbrev f_Tally_tallied : Fn := ⟨2, 2, b_Tally_tallied⟩
abbrev f_Tally_close : Fn := ⟨2, 3, b_Tally_close⟩
abbrev f_Tally_load : Fn := ⟨4, 4, b_Tally_load⟩
abbrev f_law_store : Fn := ⟨1, 5, b_law_store⟩
abbrev f_law_next : Fn := ⟨1, 2, b_law_next⟩
abbrev f_law_mix : Fn := ⟨2, 3, b_law_mix⟩
abbrev f_law_take : Fn := ⟨2, 4, b_law_take⟩
abbrev f_law_pick : Fn := ⟨2, 2, b_law_pick⟩
abbrev f_law_figures : Fn := ⟨2, 7, b_law_figures⟩
abbrev f_law_low : Fn := ⟨1, 1, b_law_low⟩
abbrev f_law_pool : Fn := ⟨1, 6, b_law_pool⟩
abbrev f_law_value : Fn := ⟨2, 3, b_law_value⟩
abbrev f_law_vast : Fn := ⟨1, 3, b_law_vast⟩
abbrev f_law_size : Fn := ⟨1, 1, b_law_size⟩
abbrev f_law_like : Fn := ⟨2, 2, b_law_like⟩
abbrev f_law_same : Fn := ⟨2, 8, b_law_same⟩
abbrev f_law_menu : Fn := ⟨2, 9, b_law_menu⟩
abbrev f_law_amount : Fn := ⟨1, 2, b_law_amount⟩
abbrev f_law_found : Fn := ⟨2, 9, b_law_found⟩
abbrev f_law_state : Fn := ⟨3, 6, b_law_state⟩
abbrev f_law_deed : Fn := ⟨3, 8, b_law_deed⟩
abbrev f_law_deeds : Fn := ⟨3, 10, b_law_deeds⟩
abbrev f_law : Fn := ⟨1, 11, b_law⟩
def fns : List Fn := [f_Tally_init, f_Tally_contains, f_Tally_put, f_Tally_groups, f_Tally_tallied, f_Tally_close, f_Tally_load, f_law_store, f_law_next, f_law_mix, f_law_take, f_law_pick, f_law_figures, f_law_low, f_law_pool, f_law_value, f_law_vast, f_law_size, f_law_like, f_law_same, f_law_menu, f_law_amount, f_law_found, f_law_state, f_law_deed, f_law_deeds, f_law]
def fnL : List (Str × Nat) := [("_law_store", 7), ("_law_next", 8), ("_law_mix", 9), ("_law_take", 10), ("_law_pick", 11), ("_law_figures", 12), ("_law_low", 13), ("_law_pool", 14), ("_law_value", 15), ("_law_vast", 16), ("_law_size", 17), ("_law_like", 18), ("_law_same", 19), ("_law_menu", 20), ("_law_amount", 21), ("_law_found", 22), ("_law_state", 23), ("_law_deed", 24), ("_law_deeds", 25), ("law", 26)]
def mtL : List ((Str × Str) × Nat) := [(("Tally", "__contains__"), 1), (("Tally", "put"), 2), (("Tally", "groups"), 3), (("Tally", "tallied"), 4), (("Tally", "close"), 5), (("Tally", "load"), 6)]
def inL : List (Str × Nat) := [("Tally", 0)]
def fldL : List (Str × Str) := [("Tally", "open_groups")]
def frL : List Str := ["abs", "bool", "int", "isinstance", "len", "list", "max", "range", "sorted", "str", "tuple"]
def intL : List (Str × Int) := []
def strL : List (Str × Str) := []
def prog : Prog where
  fns := fns
  fld := fun c f => fldL.contains (c, f)
  glob := fun x => match intL.lookup x with
    | some i => some (.int i)
    | none => (strL.lookup x).map .str
  meth := fun c m => mtL.lookup (c, m)
  init := fun c => inL.lookup c
  fnOf := fun x => fnL.lookup x
  free := fun x => frL.contains x
@[simp] theorem i_Tally_init : prog.init "Tally" = some 0 := by decide +kernel
@[simp] theorem m_Tally_contains : prog.meth "Tally" "__contains__" = some 1 := by decide +kernel
@[simp] theorem m_Tally_put : prog.meth "Tally" "put" = some 2 := by decide +kernel
@[simp] theorem m_Tally_groups : prog.meth "Tally" "groups" = some 3 := by decide +kernel
@[simp] theorem m_Tally_tallied : prog.meth "Tally" "tallied" = some 4 := by decide +kernel
@[simp] theorem m_Tally_close : prog.meth "Tally" "close" = some 5 := by decide +kernel
@[simp] theorem m_Tally_load : prog.meth "Tally" "load" = some 6 := by decide +kernel
@[simp] theorem fl_Tally_open_groups : prog.fld "Tally" "open_groups" = true := by decide +kernel
abbrev lawIx : Nat := 26
end K25
set_option linter.all false
set_option autoImplicit false
set_option maxRecDepth 100000
set_option maxHeartbeats 2000000
/-! K25b: the law's draws. -/
namespace K25
open PySem (Str)
open Iv
theorem dr : Dr2 prog 10 9 8 11 12 13 := ⟨⟨rfl, rfl, rfl⟩, rfl, rfl, rfl⟩
section
variable {k : Nat}
theorem value_d (is : List Int) (h1 : is ≠ []) (h2 : is.length ≤ 16777216) : DrawSp prog (k + 6) 15 14 [.lst (is.map .int)] (IntR fun _ => True) := by
  refine DrawSp.mk_ (k := k + 4) (F := f_law_value) rfl rfl fun n c cs Q hc q _ => ?_
  simp [b_law_value]
  refine W_dr (dr.tk 8 (by omega) (by omega)) rfl rfl hc (by omega) rfl ?_
  rintro c1 _ hc1 ⟨w, rfl, w0, w1⟩ -
  simp
  split
  · refine W_dr (dr.picki is h1 h2) rfl rfl hc1 (by omega) rfl ?_
    rintro c2 _ hc2 ⟨x, rfl, -⟩ -
    exact ⟨rfl, q _ _ _ _ hc2 (by omega) rfl ⟨x, rfl, trivial⟩⟩
  split
  · refine W_dr (dr.picki is h1 h2) rfl rfl hc1 (by omega) rfl ?_
    rintro c2 _ hc2 ⟨x, rfl, -⟩ -
    simp
    refine W_dr (dr.tk 2 (by omega) (by omega)) rfl rfl hc2 (by omega) rfl ?_
    rintro c3 _ hc3 ⟨y, rfl, y0, y1⟩ -
    simp
    exact ⟨mulOk_le 2 2 (by decide) (by omega) (by decide +kernel), q _ _ _ _ hc3 (by omega) rfl ⟨_, rfl, trivial⟩⟩
  split
  · refine W_dr dr.lowd rfl rfl hc1 (by omega) rfl ?_
    rintro c2 _ hc2 ⟨x, rfl, -⟩ -
    exact ⟨rfl, q _ _ _ _ hc2 (by omega) rfl ⟨x, rfl, trivial⟩⟩
  refine W_dr (dr.tk 4 (by omega) (by omega)) rfl rfl hc1 (by omega) rfl ?_
  rintro c2 _ hc2 ⟨x, rfl, x0, x1⟩ -
  simp
  split
  · refine W_dr dr.lowd rfl rfl hc2 (by omega) rfl ?_
    rintro c2 _ hc2 ⟨x, rfl, -⟩ -
    exact ⟨rfl, q _ _ _ _ hc2 (by omega) rfl ⟨x, rfl, trivial⟩⟩
  · refine W_dr (dr.tk 40 (by omega) (by omega)) rfl rfl hc2 (by omega) rfl ?_
    rintro c3 _ hc3 ⟨y, rfl, y0, y1⟩ -
    simp
    refine W_dr (dr.figd _ (by omega) (by omega)) rfl rfl hc3 (by omega) rfl ?_
    rintro c4 _ hc4 ⟨z, rfl, -⟩ -
    exact ⟨rfl, q _ _ _ _ hc4 (by omega) rfl ⟨z, rfl, trivial⟩⟩
theorem size_d : DrawSp prog (k + 6) 17 2 [] (IntR fun v => 0 ≤ v ∧ v ≤ 30) := by
  refine DrawSp.mk_ (k := k + 4) (F := f_law_size) rfl rfl fun n c cs Q hc q _ => ?_
  simp [b_law_size]
  refine W_dr (dr.tk 32 (by omega) (by omega)) rfl rfl hc (by omega) rfl ?_
  rintro c1 _ hc1 ⟨w, rfl, w0, w1⟩ -
  simp
  split
  · exact q _ _ _ _ hc1 (by omega) rfl ⟨30, rfl, by omega, by omega⟩
  · refine W_dr (dr.picki [7, 9, 5, 11, 8, 14, 3, 0, 10, 6, 12, 1, 8, 9, 4, 13] (by simp) (by decide)) rfl rfl hc1 (by omega) rfl ?_
    rintro c2 _ hc2 ⟨x, rfl, hx⟩ -
    simp at hx
    exact ⟨rfl, q _ _ _ _ hc2 (by omega) rfl ⟨x, rfl, by omega⟩⟩
theorem vst : DrawSp prog (k + 4) 16 4 [] (IntR fun v => v.natAbs ≤ vastB) := vast_d dr.dr rfl
theorem amount_d : DrawSp prog (k + 6) 21 14 [] (IntR fun _ => True) := by
  refine DrawSp.mk_ (k := k + 4) (F := f_law_amount) rfl rfl fun n c cs Q hc q _ => ?_
  simp [b_law_amount]
  refine W_dr (dr.tk 8 (by omega) (by omega)) rfl rfl hc (by omega) rfl ?_
  rintro c1 _ hc1 ⟨w, rfl, w0, w1⟩ -
  simp
  split
  · exact q _ _ _ _ hc1 (by omega) rfl ⟨0, rfl, trivial⟩
  split
  · refine W_dr (dr.tk 60 (by omega) (by omega)) rfl rfl hc1 (by omega) rfl ?_
    rintro c3 _ hc3 ⟨y, rfl, y0, y1⟩ -
    simp
    refine W_dr (dr.figd _ (by omega) (by omega)) rfl rfl hc3 (by omega) rfl ?_
    rintro c4 _ hc4 ⟨z, rfl, -⟩ -
    exact ⟨rfl, q _ _ _ _ hc4 (by omega) rfl ⟨z, rfl, trivial⟩⟩
  have last : ∀ m c, StOk m c → n + 5 ≤ m → W (exs (prog.pg (Iv.run prog (k + 5)) (Iv.run prog (k + 4))) (.cons (.ite (.cmp .Lt (.nm 1) (.int 5)) (.cons (.ret (.bin .Sub (.int 0) (.call 13 (.cons (.rf 0) .nil) []))) .nil) .nil) (.cons (.ret (.call 13 (.cons (.rf 0) .nil) [])) .nil))) ⟨[.ref c, .val (.int w)], cs⟩ Q := by
    intro m c hc hm
    simp
    split
    · refine W_dr dr.lowd rfl rfl hc (by omega) rfl ?_
      rintro c2 _ hc2 ⟨x, rfl, -⟩ -
      simp
      exact q _ _ _ _ hc2 (by omega) rfl ⟨_, rfl, trivial⟩
    · refine W_dr dr.lowd rfl rfl hc (by omega) rfl ?_
      rintro c2 _ hc2 ⟨x, rfl, -⟩ -
      exact ⟨rfl, q _ _ _ _ hc2 (by omega) rfl ⟨x, rfl, trivial⟩⟩
  simp at last
  split
  · refine W_dr (dr.tk 4 (by omega) (by omega)) rfl rfl hc1 (by omega) rfl ?_
    rintro c2 _ hc2 ⟨x, rfl, x0, x1⟩ -
    simp
    split
    · refine W_dr vst rfl rfl hc2 (by omega) rfl ?_
      rintro c2 _ hc2 ⟨x, rfl, -⟩ -
      exact ⟨rfl, q _ _ _ _ hc2 (by omega) rfl ⟨x, rfl, trivial⟩⟩
    · exact last _ _ hc2 (by omega)
  · exact last _ _ hc1 (by omega)
/-- a new list of tuples of whole numbers -/
def TisR (B : List (List Int) → Prop) (r : Res) : Prop := ∃ ms : List (List Int), r = .fresh (.lst (ms.map ti)) ∧ B ms
theorem menu_d (great : Bool) : DrawSp prog (k + 7) 20 10000 [.bl great] (TisR fun ms => ms ≠ [] ∧ ms.Nodup ∧ ms.length ≤ 60 ∧ ∃ size, size ≤ 4 ∧ ∀ m ∈ ms, m.length = size) := by
  refine DrawSp.mk_ (k := k + 5) (F := f_law_menu) rfl rfl fun n c cs Q hc q _ => ?_
  simp [b_law_menu]
  refine W_dr (dr.picki [1, 2, 1, 0, 3, 4, 2, 1] (by simp) (by decide)) rfl rfl hc (by omega) rfl ?_
  rintro c1 _ hc1 ⟨w, rfl, hw⟩ -
  obtain ⟨size, rfl⟩ : ∃ s : Nat, w = s := ⟨w.toNat, by simp at hw; omega⟩
  have hs4 : size ≤ 4 := by simp at hw; omega
  simp
  refine W_dr (pool_d dr rfl) rfl rfl hc1 (by omega) rfl ?_
  rintro c2 _ hc2 ⟨is, rfl, his, hil⟩ -
  simp
  refine W_dr (dr.tk 5 (by omega) (by omega)) rfl rfl hc2 (by omega) rfl ?_
  rintro c3 _ hc3 ⟨x, rfl, x0, x1⟩ -
  have f1 : ∀ many : Int, 1 ≤ many → many ≤ 60 → W (exs (prog.pg (Iv.run prog (k + 6)) (Iv.run prog (k + 5))) b_law_menu_1) ⟨[.ref c3, .val (.bl great), .val (.int size), .val (.lst (is.map .int)), .val (.int many), .un, .un, .un, .un], cs⟩ Q := by
    intro many hm1 hm2
    simp [b_law_menu_1]
    refine W_rng (fun j g => ∃ (ms : List (List Int)) (c : C) (r6 r7 : Dead), g = ⟨[.ref c, .val (.bl great), .val (.int size), .val (.lst (is.map .int)), .val (.int many), .own (.lst (ms.map ti)), r6.1, r7.1, .un], cs⟩ ∧ StOk (n + 9000 - 100 * j) c ∧ (ms = [] → j = 0) ∧ ms.Nodup ∧ ms.length ≤ j ∧ ∀ m ∈ ms, m.length = size) ?_ (by omega) (by omega) ?_ ?_
    · exact ⟨[], c3, .un, .un, rfl, hc3.le (by omega), by simp, by simp, by simp, by simp⟩
    · rintro j g R hj ⟨ms, c, r6, r7, rfl, hc, hne, hnd, hml, hall⟩ hn - - -
      have f4 : ∀ (m : Nat) (c : C) (vs : List Int), StOk m c → n + 9000 - 100 * (j + 1) ≤ m → vs.length = size → W (exs (prog.pg (Iv.run prog (k + 6)) (Iv.run prog (k + 5))) b_law_menu_4) ⟨[.ref c, .val (.bl great), .val (.int size), .val (.lst (is.map .int)), .val (.int many), .own (.lst (ms.map ti)), .val (.int j), .own (.lst (vs.map .int)), .un], cs⟩ R := by
        intro m c vs hc hm hvs
        simp [b_law_menu_4]
        rw [show (D.tup (vs.map .int)) = ti vs from rfl, inD_ti]
        simp
        split
        · rename_i hin
          refine hn _ ⟨ms, c, .v (.int j), .o (.lst (vs.map .int)), by simp, hc.le hm, ?_, hnd, by omega, hall⟩
          intro e
          rw [e] at hin
          simp at hin
        · refine ⟨by omega, hn _ ⟨ms ++ [vs], c, .v (.int j), .o (.lst (vs.map .int)), by simp, hc.le hm, by simp, ?_, by simp; omega, ?_⟩⟩
          · rw [List.nodup_append]
            refine ⟨hnd, by simp, ?_⟩
            intro a ha b hb
            simp at hb
            subst hb
            intro e
            subst e
            contradiction
          · intro m hm
            rcases List.mem_append.mp hm with h | h
            · exact hall m h
            · simp at h; rw [h]; exact hvs
      have f3 : ∀ (m : Nat) (c : C) (vs : List Int), StOk m c → n + 9000 - 100 * j ≤ m + 80 → vs.length = size → W (exs (prog.pg (Iv.run prog (k + 6)) (Iv.run prog (k + 5))) b_law_menu_3) ⟨[.ref c, .val (.bl great), .val (.int size), .val (.lst (is.map .int)), .val (.int many), .own (.lst (ms.map ti)), .val (.int j), .own (.lst (vs.map .int)), .un], cs⟩ R := by
        intro m c vs hc hm hvs
        simp [b_law_menu_3]
        split
        · refine W_dr (dr.tk 24 (by omega) (by omega)) rfl rfl hc (by omega) rfl ?_
          rintro c4 _ hc4 ⟨y, rfl, y0, y1⟩ -
          simp
          split
          · refine W_dr vst rfl rfl hc4 (by omega) rfl ?_
            rintro c5 _ hc5 ⟨z, rfl, -⟩ -
            simp
            refine W_dr (dr.tk size (by omega) (by omega)) rfl rfl hc5 (by omega) rfl ?_
            rintro c6 _ hc6 ⟨t, rfl, t0, t1⟩ -
            have ht : t.toNat < vs.length := by omega
            simp [hvs, t0, t1]
            rw [← List.map_set]
            exact f4 _ _ _ hc6 (by omega) (by simpa using hvs)
          · exact f4 _ _ _ hc4 (by omega) hvs
        · exact f4 _ _ _ hc (by omega) hvs
      simp [b_law_menu_2]
      refine Rg_of (by omega) (by omega) fun ds hds hdl hdg => ?_
      simp
      refine W_lcp (fun i acc g => ∃ (c : C) (vs : List Int), g = ⟨[.ref c, .val (.bl great), .val (.int size), .val (.lst (is.map .int)), .val (.int many), .own (.lst (ms.map ti)), .val (.int j), r7.1, .un], cs⟩ ∧ acc = vs.map .int ∧ vs.length = i ∧ StOk (n + 9000 - 100 * j - 14 * i) c) ?_ ?_ ?_
      · exact ⟨c, [], rfl, rfl, rfl, hc⟩
      · rintro i d acc g R2 hd ⟨c, vs, rfl, rfl, hvs, hc⟩ hy -
        have hi : i < size := by
          have := (List.getElem?_eq_some_iff.mp hd).1
          omega
        simp
        refine W_dr (value_d is his (by omega)) rfl rfl hc (by omega) rfl ?_
        rintro c4 _ hc4 ⟨y, rfl, -⟩ -
        simp
        exact hy _ _ (by simp; omega) ⟨c4, vs ++ [y], rfl, by simp, by simp [hvs], hc4.le (by omega)⟩
      · rintro acc g ⟨c, vs, rfl, rfl, hvs, hc⟩
        rw [hdl] at hvs hc
        have hvs : vs.length = size := by omega
        have hc : StOk (n + 9000 - 100 * j - 56) c := hc.le (by omega)
        simp
        split
        · rename_i h0
          split
          · have h0 : 0 < vs.length := by omega
            simp [h0]
            rw [← List.map_set]
            exact f3 _ _ _ hc (by omega) (by simpa using hvs)
          · exact f3 _ _ _ hc (by omega) hvs
        · exact f3 _ _ _ hc (by omega) hvs
    · rintro g ⟨ms, c, r6, r7, rfl, hc, hne, hnd, hml, hall⟩
      simp [b_law_menu_5]
      refine q _ _ _ _ hc (by omega) rfl ⟨ms, rfl, ?_, hnd, by omega, size, hs4, hall⟩
      intro e
      have := hne e
      omega
  simp
  split
  · exact f1 60 (by omega) (by omega)
  · exact f1 _ (by omega) (by omega)
end
end K25
set_option linter.all false
set_option autoImplicit false
set_option maxRecDepth 100000
set_option maxHeartbeats 2000000
/-! K25c: the tally. -/
namespace K25
open PySem (Str)
open Iv
/-- open groups with count and sum -/
abbrev Tl := List (List Int × Int × Int)
def ky (vs : List Int) : List Key := vs.map .inl
theorem ky_inj {a b : List Int} : ky a = ky b ↔ a = b := by
  constructor
  · intro h
    have := congrArg (List.map fun d => match d with | Sum.inl i => i | _ => (0 : Int)) h
    unfold ky at this
    rw [List.map_map, List.map_map] at this
    have e : ((fun d : Key => match d with | Sum.inl i => i | _ => 0) ∘ Sum.inl) = (id : Int → Int) := rfl
    rw [e, List.map_id, List.map_id] at this
    exact this
  · intro h; rw [h]
def ct (e : Int × Int) : D := .tup [.int e.1, .int e.2]
def kvs (t : Tl) : List (List Key × D) := t.map fun e => (ky e.1, ct e.2)
def inst (t : Tl) : Inst := ⟨"Tally", [("open_groups", .own (.dT (kvs t)))]⟩
def lk (t : Tl) (vs : List Int) : Option (Int × Int) := (t.find? fun e => decide (e.1 = vs)).map (·.2)
def putT (t : Tl) (vs : List Int) (e : Int × Int) : Tl := if (t.any fun x => decide (x.1 = vs)) = true then t.map (fun x => if x.1 = vs then (x.1, e) else x) else t ++ [(vs, e)]
def delT (t : Tl) (vs : List Int) : Tl := t.filter fun x => decide (x.1 ≠ vs)
theorem keysD_ints (vs : List Int) : keysD (vs.map .int) = some (ky vs) := by
  induction vs with
  | nil => rfl
  | cons v vs ih => simp [keysD, keyD, ih, ky]
theorem look_kvs (t : Tl) (vs : List Int) : look (ky vs) (kvs t) = (lk t vs).map ct := by
  unfold look lk kvs
  induction t with
  | nil => rfl
  | cons e t ih =>
    simp only [List.map_cons, List.find?_cons, ky_inj]
    by_cases h : e.1 = vs
    · simp [h]
    · simp only [h, decide_false]
      exact ih
theorem putK_kvs (t : Tl) (vs : List Int) (e : Int × Int) : putK (ky vs) (ct e) (kvs t) = kvs (putT t vs e) := by
  unfold putK putT
  have e1 : ((kvs t).any fun kv => decide (kv.1 = ky vs)) = (t.any fun x => decide (x.1 = vs)) := by
    unfold kvs
    rw [List.any_map]
    congr 1
    funext x
    simp [ky_inj]
  rw [e1]
  split
  · unfold kvs
    rw [List.map_map, List.map_map]
    refine List.map_congr_left ?_
    intro x _
    simp only [Function.comp, ky_inj]
    split <;> rfl
  · simp [kvs]
theorem delK_kvs (t : Tl) (vs : List Int) : delK (ky vs) (kvs t) = kvs (delT t vs) := by
  unfold delK delT kvs
  rw [List.filter_map]
  congr 1
  refine List.filter_congr ?_
  intro x _
  simp [ky_inj]
theorem kvs_len (t : Tl) : (kvs t).length = t.length := by simp [kvs]
section
variable {k n : Nat} {t : Tl} {vs : List Int}
theorem set_inst {cs : List Inst} {I : Inst} (h : cs[n]? = some I) : cs.set n I = cs := set_same h
theorem tallied_m : MethSp prog (k + 2) 4 n [ti vs] (inst t) (inst t) (fun r => r = .val (ct ((lk t vs).getD (0, 0)))) := by
  refine MethSp.mk_ (F := f_Tally_tallied) rfl rfl fun cs Q hI q _ => ?_
  rw [set_inst hI] at q
  have e : (Option.map ct (lk t vs)).getD (D.tup [D.int 0, D.int 0]) = ct ((lk t vs).getD (0, 0)) := by cases lk t vs <;> rfl
  simp [b_Tally_tallied, hI, inst, keysD_ints, look_kvs, e]
  exact q _ _ rfl rfl
theorem contains_m : MethSp prog (k + 2) 1 n [ti vs] (inst t) (inst t) (fun r => r = .val (.bl (lk t vs).isSome)) := by
  refine MethSp.mk_ (F := f_Tally_contains) rfl rfl fun cs Q hI q _ => ?_
  rw [set_inst hI] at q
  simp [b_Tally_contains, hI, inst, inC, keysD_ints, look_kvs]
  exact q _ _ rfl rfl
theorem load_m {c s : Int} (hl : t.length < 1000) : MethSp prog (k + 2) 6 n [ti vs, .int c, .int s] (inst t) (inst (putT t vs (c, s))) (fun r => r = .val .non) := by
  refine MethSp.mk_ (F := f_Tally_load) rfl rfl fun cs Q hI _ q => ?_
  have := putK_kvs t vs (c, s)
  simp only [ct] at this
  simp [b_Tally_load, hI, inst, keysD_ints, kvs_len, this]
  exact ⟨by omega, q _ rfl⟩
theorem put_m {a : Int} (hl : t.length < 1000) : MethSp prog (k + 3) 2 n [ti vs, .int a] (inst t) (inst (putT t vs (((lk t vs).getD (0, 0)).1 + 1, ((lk t vs).getD (0, 0)).2 + a))) (fun r => r = .val .non) := by
  refine MethSp.mk_ (k := k + 1) (F := f_Tally_put) rfl rfl fun cs Q hI _ q => ?_
  simp [b_Tally_put, hI]
  refine ⟨⟨rfl, rfl⟩, ?_⟩
  refine W_me (tallied_m (t := t) (vs := vs)) rfl rfl hI ?_
  rintro _ rfl -
  have := putK_kvs t vs (((lk t vs).getD (0, 0)).1 + 1, ((lk t vs).getD (0, 0)).2 + a)
  simp only [ct] at this
  rw [set_inst hI]
  simp [ct, hI, inst, keysD_ints, kvs_len, this]
  exact ⟨by omega, q _ rfl⟩
theorem close_m : MethSp prog (k + 3) 5 n [ti vs] (inst t) (inst (delT t vs)) (fun r => r = .val (ct ((lk t vs).getD (0, 0)))) := by
  refine MethSp.mk_ (k := k + 1) (F := f_Tally_close) rfl rfl fun cs Q hI q _ => ?_
  simp [b_Tally_close, hI]
  refine ⟨⟨rfl, rfl⟩, ?_⟩
  refine W_me (tallied_m (t := t) (vs := vs)) rfl rfl hI ?_
  rintro _ rfl -
  rw [set_inst hI]
  simp [hI, inst, keysD_ints, delK_kvs]
  exact q _ _ rfl rfl
theorem keys_back (t : Tl) : (kvs t).map (fun p => D.tup (p.1.map kD)) = (t.map (·.1)).map ti := by
  unfold kvs
  rw [List.map_map, List.map_map]
  refine List.map_congr_left ?_
  intro x _
  simp only [Function.comp, ky, List.map_map]
  rfl
theorem groups_m (hg : (∀ e ∈ t, e.1 ≠ []) ∨ t.length ≤ 1) (hl : t.length < 1000) : MethSp prog (k + 2) 3 n [] (inst t) (inst t) (fun r => r = .fresh (.lst (((t.map (·.1)).map ti).mergeSort leD))) := by
  refine MethSp.mk_ (F := f_Tally_groups) rfl rfl fun cs Q hI q _ => ?_
  rw [set_inst hI] at q
  have e := sortD_ti (bs := t.map (·.1)) (by
    rcases hg with h | h
    · left
      intro b hb
      obtain ⟨e, he, rfl⟩ := List.mem_map.mp hb
      exact h e he
    · right; simpa using h) (by rw [List.length_map, line_eq_x]; omega)
  simp only [b_Tally_groups]
  simp [hI, inst]
  rw [keys_back, e]
  exact ⟨rfl, q _ _ rfl rfl⟩
end
end K25
set_option linter.all false
set_option autoImplicit false
set_option maxRecDepth 100000
set_option maxHeartbeats 2000000
/-! K25d: deeds and what they make of a tally. -/
namespace K25
open PySem (Str)
open Iv
inductive Way where
  | put | load | close
def Way.s : Way → Str
  | .put => "put"
  | .load => "load"
  | .close => "close"
structure Deed where
  side : Int
  way : Way
  vs : List Int
  amt : Int
  giv : Int
def Deed.d (x : Deed) : D := .tup [.int x.side, .str x.way.s, ti x.vs, .int x.amt, .int x.giv]
/-- the count and the sum behind one deed more -/
def step (vs : List Int) (e : Int × Int) (x : Deed) : Int × Int :=
  if x.vs = vs then (match x.way with
    | .put => (e.1 + 1, e.2 + x.amt)
    | .close => (0, 0)
    | .load => (x.giv, x.amt)) else e
def found (told : List Deed) (vs : List Int) : Int × Int := told.foldl (step vs) (0, 0)
theorem eq_pp : eqD (.str "put") (.str "put") = some true := (eqD_str (by decide +kernel) (by decide +kernel)).trans (by decide +kernel)
theorem eq_pl : eqD (.str "put") (.str "load") = some false := (eqD_str (by decide +kernel) (by decide +kernel)).trans (by decide +kernel)
theorem eq_pc : eqD (.str "put") (.str "close") = some false := (eqD_str (by decide +kernel) (by decide +kernel)).trans (by decide +kernel)
theorem eq_lp : eqD (.str "load") (.str "put") = some false := (eqD_str (by decide +kernel) (by decide +kernel)).trans (by decide +kernel)
theorem eq_ll : eqD (.str "load") (.str "load") = some true := (eqD_str (by decide +kernel) (by decide +kernel)).trans (by decide +kernel)
theorem eq_lc : eqD (.str "load") (.str "close") = some false := (eqD_str (by decide +kernel) (by decide +kernel)).trans (by decide +kernel)
theorem eq_cp : eqD (.str "close") (.str "put") = some false := (eqD_str (by decide +kernel) (by decide +kernel)).trans (by decide +kernel)
theorem eq_cl : eqD (.str "close") (.str "load") = some false := (eqD_str (by decide +kernel) (by decide +kernel)).trans (by decide +kernel)
theorem eq_cc : eqD (.str "close") (.str "close") = some true := (eqD_str (by decide +kernel) (by decide +kernel)).trans (by decide +kernel)
section
variable {k n : Nat} {t : Tl} {vs : List Int}
theorem found_p (told : List Deed) (vs : List Int) : PureSp prog (k + 2) 22 [.lst (told.map Deed.d), ti vs] (fun r => r = .val (ct (found told vs))) := by
  refine PureSp.mk_ (F := f_law_found) rfl rfl fun cs Q q _ => ?_
  simp [b_law_found]
  refine W_lp (fun j g => ∃ r4 r5 r6 r7 r8 : Dead, g = ⟨[.val (.lst (told.map Deed.d)), .val (ti vs), .val (.int (found (told.take j) vs).1), .val (.int (found (told.take j) vs).2), r4.1, r5.1, r6.1, r7.1, r8.1], cs⟩) ⟨.un, .un, .un, .un, .un, rfl⟩ ?_ ?_
  · rintro j d g R hj ⟨r4, r5, r6, r7, r8, rfl⟩ hn - - -
    rw [List.getElem?_map] at hj
    obtain ⟨x, hx, rfl⟩ := Option.map_eq_some_iff.mp hj
    have e : found (told.take (j + 1)) vs = step vs (found (told.take j) vs) x := by
      simp [found, List.take_add_one, hx]
    have hn := fun (g : Sg) (h : g = ⟨[.val (.lst (told.map Deed.d)), .val (ti vs), .val (.int (found (told.take (j + 1)) vs).1), .val (.int (found (told.take (j + 1)) vs).2), .val (.int x.side), .val (.str x.way.s), .val (ti x.vs), .val (.int x.amt), .val (.int x.giv)], cs⟩) => hn g ⟨.v _, .v _, .v _, .v _, .v _, h⟩
    rw [e] at hn
    obtain ⟨side, way, ws, amt, giv⟩ := x
    simp only [step] at hn
    generalize found (told.take j) vs = f at *
    by_cases hv : ws = vs
    · subst hv
      simp only [if_true] at hn
      cases way <;> simp [Deed.d, Way.s, b_law_found_1, b_law_found_2, b_law_found_3, eqD_ti, eq_pp, eq_pl, eq_pc, eq_lp, eq_ll, eq_lc, eq_cp, eq_cl, eq_cc] <;> exact hn _ rfl
    · simp only [if_neg hv] at hn
      simp [Deed.d, b_law_found_1, eqD_ti, hv]
      exact hn _ rfl
  · rintro g ⟨r4, r5, r6, r7, r8, rfl⟩
    simp [b_law_found_4]
    exact q _ _ rfl rfl
end
/-! ### the plain law -/
theorem found_snoc (told : List Deed) (x : Deed) (vs : List Int) : found (told ++ [x]) vs = step vs (found told vs) x := by simp [found]
theorem found_pos (told : List Deed) (h : ∀ x ∈ told, 1 ≤ x.giv) (vs : List Int) : found told vs = (0, 0) ∨ 0 < (found told vs).1 := by
  have gen : ∀ (l : List Deed) (e : Int × Int), (∀ x ∈ l, 1 ≤ x.giv) → (e = (0, 0) ∨ 0 < e.1) → (l.foldl (step vs) e = (0, 0) ∨ 0 < (l.foldl (step vs) e).1) := by
    intro l
    induction l with
    | nil => intro e _ h; exact h
    | cons x l ih =>
      intro e h1 h2
      refine ih _ (fun y hy => h1 y (List.mem_cons_of_mem _ hy)) ?_
      have hx := h1 x (List.mem_cons_self ..)
      unfold step
      split
      · cases x.way
        · right
          rcases h2 with rfl | h2
          · show (0 : Int) < 0 + 1; omega
          · show (0 : Int) < e.1 + 1; omega
        · right; show 0 < x.giv; omega
        · left; rfl
      · exact h2
  exact gen told _ h (.inl rfl)
theorem found_out (told : List Deed) (vs : List Int) (h : ∀ x ∈ told, x.vs ≠ vs) : found told vs = (0, 0) := by
  unfold found
  generalize ((0 : Int), (0 : Int)) = e
  induction told with
  | nil => rfl
  | cons x l ih =>
    rw [List.foldl_cons]
    have : step vs e x = e := by unfold step; rw [if_neg (h x (List.mem_cons_self ..))]
    rw [this]
    exact ih fun y hy => h y (List.mem_cons_of_mem _ hy)
theorem lk_none {t : Tl} {vs : List Int} : lk t vs = none ↔ vs ∉ t.map (·.1) := by
  unfold lk
  rw [Option.map_eq_none_iff, List.find?_eq_none]
  constructor
  · intro h hm
    obtain ⟨x, hx, e⟩ := List.mem_map.mp hm
    exact h x hx (decide_eq_true e)
  · intro h x hx e
    exact h (List.mem_map.mpr ⟨x, hx, of_decide_eq_true e⟩)
theorem lk_put (t : Tl) (vs ws : List Int) (e : Int × Int) : lk (putT t vs e) ws = if ws = vs then some e else lk t ws := by
  unfold putT
  split
  · rename_i h
    induction t with
    | nil => simp at h
    | cons x t ih =>
      unfold lk at ih ⊢
      rw [List.map_cons, List.find?_cons, List.find?_cons]
      by_cases hx : x.1 = vs
      · subst hx
        simp only [if_true]
        by_cases hw : ws = x.1
        · subst hw; simp
        · have hw' : ¬ x.1 = ws := fun e => hw e.symm
          simp only [hw', decide_false, if_neg hw]
          by_cases ht : (t.any fun y => decide (y.1 = x.1)) = true
          · have := ih ht
            rw [if_neg hw] at this
            exact this
          · have : t.map (fun y => if y.1 = x.1 then (y.1, e) else y) = t := by
              conv => rhs; rw [← List.map_id t]
              refine List.map_congr_left ?_
              intro y hy
              split
              · rename_i he
                exact absurd (List.any_eq_true.mpr ⟨y, hy, decide_eq_true he⟩) ht
              · rfl
            rw [this]
      · simp only [if_neg hx]
        have ht : (t.any fun y => decide (y.1 = vs)) = true := by simpa [hx] using h
        by_cases hw : x.1 = ws
        · have : ¬ ws = vs := fun e => hx (hw.trans e)
          simp [hw, this]
        · simp only [hw, decide_false]
          exact ih ht
  · rename_i h
    unfold lk
    rw [List.find?_append]
    by_cases hw : ws = vs
    · subst hw
      have : (t.find? fun x => decide (x.1 = ws)) = none := by
        rw [List.find?_eq_none]
        intro x hx hd
        exact h (List.any_eq_true.mpr ⟨x, hx, hd⟩)
      simp [this]
    · have hw' : ¬ vs = ws := fun e => hw e.symm
      simp [hw, hw']
theorem lk_del (t : Tl) (vs ws : List Int) : lk (delT t vs) ws = if ws = vs then none else lk t ws := by
  unfold lk delT
  induction t with
  | nil => simp
  | cons x t ih =>
    rw [List.filter_cons]
    by_cases hx : x.1 = vs
    · have hf : ¬ decide (x.1 ≠ vs) = true := by simp [hx]
      rw [if_neg hf, ih]
      split
      · rfl
      · rename_i hw
        have : ¬ x.1 = ws := fun e => hw (e.symm.trans hx)
        simp [this]
    · have hf : decide (x.1 ≠ vs) = true := by simp [hx]
      rw [if_pos hf, List.find?_cons, List.find?_cons]
      by_cases hw : x.1 = ws
      · have : ¬ ws = vs := fun e => hx (hw.trans e)
        simp [hw, this]
      · simp only [hw, decide_false]
        exact ih
theorem put_nd {t : Tl} {vs : List Int} {e : Int × Int} (h : (t.map (·.1)).Nodup) : ((putT t vs e).map (·.1)).Nodup := by
  unfold putT
  split
  · have : (t.map (fun x => if x.1 = vs then (x.1, e) else x)).map (·.1) = t.map (·.1) := by
      rw [List.map_map]
      refine List.map_congr_left ?_
      intro x _
      simp only [Function.comp]
      split <;> rfl
    rw [this]; exact h
  · rename_i hn
    rw [List.map_append, List.nodup_append]
    refine ⟨h, by simp, ?_⟩
    intro a ha b hb hab
    simp at hb
    subst hb
    obtain ⟨x, hx, he⟩ := List.mem_map.mp ha
    exact hn (List.any_eq_true.mpr ⟨x, hx, decide_eq_true (he.trans hab)⟩)
theorem del_nd {t : Tl} {vs : List Int} (h : (t.map (·.1)).Nodup) : ((delT t vs).map (·.1)).Nodup := by
  unfold delT
  exact List.Nodup.sublist (List.Sublist.map _ List.filter_sublist) h
/-- the tally is what the deeds made -/
structure Inv (t : Tl) (told : List Deed) (menu : List (List Int)) : Prop where
  nd : (t.map (·.1)).Nodup
  lkf : ∀ vs, lk t vs = if 0 < (found told vs).1 then some (found told vs) else none
  mem : ∀ x ∈ told, x.vs ∈ menu ∧ 1 ≤ x.giv
/-- a menu -/
structure Menu (menu : List (List Int)) : Prop where
  nd : menu.Nodup
  len : menu.length ≤ 60
  size : ∃ size, size ≤ 4 ∧ ∀ m ∈ menu, m.length = size
section
variable {t : Tl} {told : List Deed} {menu : List (List Int)}
theorem Inv.getD (h : Inv t told menu) (vs : List Int) : (lk t vs).getD (0, 0) = found told vs := by
  rw [h.lkf]
  split
  · rfl
  · rcases found_pos told (fun x hx => (h.mem x hx).2) vs with e | e
    · rw [e]; rfl
    · contradiction
theorem Inv.keys (h : Inv t told menu) (vs : List Int) : vs ∈ t.map (·.1) ↔ 0 < (found told vs).1 := by
  have e := h.lkf vs
  constructor
  · intro hm
    by_cases hp : 0 < (found told vs).1
    · exact hp
    · rw [if_neg hp] at e
      exact absurd hm (lk_none.mp e)
  · intro hp
    rw [if_pos hp] at e
    refine Classical.byContradiction fun hn => ?_
    rw [lk_none.mpr hn] at e
    cases e
theorem Inv.inMenu (h : Inv t told menu) {vs : List Int} (hp : 0 < (found told vs).1) : vs ∈ menu := by
  refine Classical.byContradiction fun hn => ?_
  rw [found_out told vs fun x hx e => hn (e ▸ (h.mem x hx).1)] at hp
  exact absurd hp (by decide)
def opens (told : List Deed) (menu : List (List Int)) : List (List Int) := menu.filter fun vs => decide (0 < (found told vs).1)
theorem Inv.perm (h : Inv t told menu) (hm : Menu menu) : (t.map (·.1)).Perm (opens told menu) := by
  refine (List.perm_ext_iff_of_nodup h.nd (List.Nodup.sublist List.filter_sublist hm.nd)).mpr fun vs => ?_
  rw [h.keys, List.mem_filter]
  constructor
  · intro hp; exact ⟨h.inMenu hp, decide_eq_true hp⟩
  · intro hp; exact of_decide_eq_true hp.2
theorem Inv.len (h : Inv t told menu) (hm : Menu menu) : t.length ≤ 60 := by
  have e := (h.perm hm).length_eq
  rw [List.length_map] at e
  rw [e]
  exact Nat.le_trans (List.length_filter_le ..) hm.len
theorem one_of_nil : ∀ {l : List (List Int)}, l.Nodup → (∀ m ∈ l, m = []) → l.length ≤ 1
  | [], _, _ => by simp
  | [a], _, _ => by simp
  | a :: b :: l, h, e => by
    have h1 := e a (by simp)
    have h2 := e b (by simp)
    subst h1; subst h2
    simp at h
theorem Inv.good (h : Inv t told menu) (hm : Menu menu) : (∀ e ∈ t, e.1 ≠ []) ∨ t.length ≤ 1 := by
  obtain ⟨size, _, hs⟩ := hm.size
  have hk : ∀ vs ∈ t.map (·.1), vs.length = size := fun vs hv => hs vs (h.inMenu ((h.keys vs).mp hv))
  cases size with
  | zero =>
    right
    have := one_of_nil h.nd fun m hm => List.length_eq_zero_iff.mp (hk m hm)
    rwa [List.length_map] at this
  | succ s =>
    left
    intro e he e0
    have := hk e.1 (List.mem_map_of_mem he)
    rw [e0] at this
    cases this
theorem opens_good (hm : Menu menu) : (∀ b ∈ opens told menu, b ≠ []) ∨ (opens told menu).length ≤ 1 := by
  obtain ⟨size, _, hs⟩ := hm.size
  have hk : ∀ vs ∈ opens told menu, vs.length = size := fun vs hv => hs vs (List.mem_filter.mp hv).1
  cases size with
  | zero => right; exact one_of_nil (List.Nodup.sublist List.filter_sublist hm.nd) fun m hm => List.length_eq_zero_iff.mp (hk m hm)
  | succ s =>
    left
    intro b hb e
    have := hk b hb
    rw [e] at this
    cases this
def sorted (told : List Deed) (menu : List (List Int)) : List D := ((opens told menu).map ti).mergeSort leD
theorem Inv.same (h : Inv t told menu) (hm : Menu menu) : ((t.map (·.1)).map ti).mergeSort leD = sorted told menu := by
  refine sort_same ((h.perm hm).map ti) ?_
  intro a ha b hb h1 h2
  obtain ⟨x, _, rfl⟩ := List.mem_map.mp ha
  obtain ⟨y, _, rfl⟩ := List.mem_map.mp hb
  rw [leD_ti_anti h1 h2]
theorem sorted_mem {d : D} : d ∈ sorted told menu ↔ ∃ vs ∈ opens told menu, ti vs = d := by
  unfold sorted
  rw [(List.mergeSort_perm _ leD).mem_iff, List.mem_map]
theorem sorted_plain : plain 2 (.lst (sorted told menu)) = true := by
  rw [plain_lst, List.all_eq_true]
  intro d hd
  obtain ⟨vs, _, rfl⟩ := sorted_mem.mp hd
  exact plain_ti
theorem sum_le {α : Type} {f : α → Nat} {B : Nat} : ∀ {l : List α}, (∀ x ∈ l, f x ≤ B) → (l.map f).sum ≤ B * l.length
  | [], _ => by simp
  | x :: l, h => by
    have h1 := h x (by simp)
    have h2 := sum_le (l := l) fun y hy => h y (List.mem_cons_of_mem _ hy)
    simp only [List.map_cons, List.sum_cons, List.length_cons, Nat.mul_add]
    omega
theorem sorted_len (hm : Menu menu) : (sorted told menu).length ≤ 60 := by
  unfold sorted
  rw [(List.mergeSort_perm _ leD).length_eq, List.length_map]
  exact Nat.le_trans (List.length_filter_le ..) hm.len
theorem weigh_ti {vs : List Int} : weigh 1 (ti vs) = 1 + vs.length := by
  have : ∀ l : List Int, ((l.map D.int).map (weigh 0)).sum = l.length := by
    intro l
    induction l with
    | nil => rfl
    | cons a l ih => rw [List.map_cons, List.map_cons, List.sum_cons, List.length_cons, ih]; simp only [weigh]; omega
  show 1 + ((vs.map D.int).map (weigh 0)).sum = _
  rw [this]
theorem sorted_weigh (hm : Menu menu) : weigh 2 (.lst (sorted told menu)) < 16777216 := by
  obtain ⟨size, h4, hs⟩ := hm.size
  have := sum_le (l := sorted told menu) (f := weigh 1) (B := 5) (by
    intro d hd
    obtain ⟨vs, hv, rfl⟩ := sorted_mem.mp hd
    rw [weigh_ti, hs vs (List.mem_filter.mp hv).1]
    omega)
  have hl := sorted_len (told := told) hm
  show 1 + ((sorted told menu).map (weigh 1)).sum < _
  omega
end
end K25
set_option linter.all false
set_option autoImplicit false
set_option maxRecDepth 100000
set_option maxHeartbeats 2000000
/-! K25e: the walk through the law. -/
namespace K25
open PySem (Str)
open Iv
section
variable {k n : Nat} {t : Tl} {told : List Deed} {menu : List (List Int)}
theorem same_d {m : Nat} {x : D} (hx : plain m x = true) (hm : m ≤ 60) (hw : weigh m x < 16777216) : PureSp prog (k + 3) 19 [x, x] (fun r => r = .val (.bl true)) := same_p (j := 18) rfl rfl hx hm hw
theorem same_ct (e : Int × Int) : PureSp prog (k + 3) 19 [ct e, ct e] (fun r => r = .val (.bl true)) := same_d (m := 1) (by simp [ct]) (by omega) (by simp [ct, weigh, kids])
theorem opens_snoc (a : List (List Int)) (vs : List Int) : opens told (a ++ [vs]) = opens told a ++ (if 0 < (found told vs).1 then [vs] else []) := by
  unfold opens
  rw [List.filter_append]
  congr 1
  by_cases h : 0 < (found told vs).1 <;> simp [h]
theorem state_m (h : Inv t told menu) (hm : Menu menu) : MethSp prog (k + 6) 23 n [.lst (told.map Deed.d), .lst (menu.map ti)] (inst t) (inst t) (fun r => r = .val (.bl true)) := by
  refine MethSp.mk_ (k := k + 4) (F := f_law_state) rfl rfl fun cs Q hI q _ => ?_
  rw [set_inst hI] at q
  have hlen := h.len hm
  have hml := hm.len
  simp [b_law_state]
  refine W_lcp (fun i acc g => g = ⟨[.val (.cell n), .val (.lst (told.map Deed.d)), .val (.lst (menu.map ti)), .un, .un, .un], cs⟩ ∧ acc = (opens told (menu.take i)).map ti) ⟨rfl, rfl⟩ ?_ ?_
  · rintro i d acc g R hd ⟨rfl, rfl⟩ hy hnn
    rw [List.getElem?_map] at hd
    obtain ⟨vs, hv, rfl⟩ := Option.map_eq_some_iff.mp hd
    have e : menu.take (i + 1) = menu.take i ++ [vs] := by simp [List.take_add_one, hv]
    have hlt : ((opens told (menu.take i)).map ti).length < 16777216 := by
      have h1 := List.length_filter_le (fun vs => decide (0 < (found told vs).1)) (menu.take i)
      have h2 : (menu.take i).length ≤ menu.length := by simp; omega
      rw [List.length_map]
      show (menu.take i |>.filter _).length < _
      omega
    simp
    refine W_pu (found_p told vs) rfl rfl ?_
    rintro _ rfl -
    simp [ct]
    split
    · rename_i hp
      refine hy _ _ hlt ⟨rfl, ?_⟩
      rw [e, opens_snoc, if_pos hp, List.map_append]
      rfl
    · rename_i hp
      refine hnn _ ⟨rfl, ?_⟩
      rw [e, opens_snoc, if_neg hp, List.append_nil]
  rintro acc g ⟨rfl, rfl⟩
  rw [List.length_map, List.take_length]
  have hsort := sortD_ti (bs := opens told menu) (opens_good hm) (by
    have := List.length_filter_le (fun vs => decide (0 < (found told vs).1)) menu
    show (menu.filter _).length ≤ _
    rw [line_eq_x]
    omega)
  simp [hsort, hI]
  refine ⟨⟨rfl, rfl⟩, ?_⟩
  have hgr := groups_m (k := k + 3) (n := n) (h.good hm) (by omega)
  rw [h.same hm] at hgr
  have hX : ((opens told menu).map ti).mergeSort leD = sorted told menu := rfl
  rw [hX]
  have sm := same_d (k := k + 2) (sorted_plain (told := told) (menu := menu)) (by omega) (sorted_weigh hm)
  have hsl := sorted_len (told := told) hm
  refine W_me hgr rfl rfl hI ?_
  rintro _ rfl -
  rw [set_inst hI]
  simp
  have nfX : nfArgs ([D.lst (sorted told menu), D.lst (sorted told menu)].map Arg.v) = true := by
    have : nfs (sorted told menu) = true := by
      have gen : ∀ l : List D, (∀ d ∈ l, ∃ vs : List Int, ti vs = d) → nfs l = true := by
        intro l
        induction l with
        | nil => intro _; rfl
        | cons d l ih =>
          intro h
          obtain ⟨vs, rfl⟩ := h d (by simp)
          have h1 : nfs (vs.map D.int) = true := by
            induction vs with
            | nil => rfl
            | cons v vs ihv => simp only [List.map_cons, nfs, nf, Bool.true_and]; exact ihv (fun d hd => by
                rcases List.mem_cons.mp hd with rfl | hd
                · exact ⟨vs, rfl⟩
                · exact h d (by simp [hd]))
          simp only [nfs, nf, h1, Bool.true_and]
          exact ih fun d hd => h d (by simp [hd])
      exact gen _ fun d hd => by
        obtain ⟨vs, _, e⟩ := sorted_mem.mp hd
        exact ⟨vs, e⟩
    simp [nfArgs, nf, this]
  generalize hXX : sorted told menu = X at *
  refine W_puL sm rfl rfl rfl nfX (by rintro _ rfl; exact ⟨_, rfl, rfl⟩) ?_
  rintro _ rfl
  simp [hsl, hI]
  refine ⟨by omega, ⟨rfl, rfl⟩, ?_⟩
  refine W_me hgr rfl rfl hI ?_
  rintro _ rfl -
  rw [set_inst hI]
  simp
  refine W_pu sm rfl rfl ?_
  rintro _ rfl -
  simp
  refine W_lp (fun i g => ∃ r4 : Dead, g = ⟨[.val (.cell n), .val (.lst (told.map Deed.d)), .val (.lst (menu.map ti)), .val (.lst X), r4.1, .own (.lst ((X ++ [D.tup [D.int 5]]).set 0 (D.tup [])))], cs⟩) ⟨.un, rfl⟩ ?_ ?_
  · rintro i d g R hd ⟨r4, rfl⟩ hn - - -
    rw [List.getElem?_map] at hd
    obtain ⟨vs, hv, rfl⟩ := Option.map_eq_some_iff.mp hd
    have hvm : vs ∈ menu := List.mem_of_getElem? hv
    have hin : inD (ti vs) X = some (lk t vs).isSome := by
      obtain ⟨b, hb, hbi⟩ := inD_iff (n := 1) (m := 1) (d := ti vs) (es := X) plain_ti (by rw [← hXX]; exact sorted_plain) (by omega) (by omega)
      rw [hb]
      congr 1
      rw [Bool.eq_iff_iff, hbi, ← hXX, sorted_mem, h.lkf]
      constructor
      · rintro ⟨ws, hw, e⟩
        rw [ti_inj.mp e] at hw
        have := (List.mem_filter.mp hw).2
        rw [if_pos (of_decide_eq_true this)]
        rfl
      · intro hs
        by_cases hp : 0 < (found told vs).1
        · exact ⟨vs, List.mem_filter.mpr ⟨hvm, decide_eq_true hp⟩, rfl⟩
        · rw [if_neg hp] at hs; cases hs
    simp [b_law_state_1, hI]
    refine ⟨⟨rfl, rfl⟩, ?_⟩
    refine W_me (contains_m (k := k + 3) (t := t) (vs := vs)) rfl rfl hI ?_
    rintro _ rfl -
    rw [set_inst hI]
    simp [hin, hI]
    refine ⟨⟨rfl, rfl⟩, ?_⟩
    refine W_me (tallied_m (k := k + 3) (t := t) (vs := vs)) rfl rfl hI ?_
    rintro _ rfl -
    rw [set_inst hI, h.getD]
    simp
    refine W_pu (found_p (k := k + 3) told vs) rfl rfl ?_
    rintro _ rfl -
    simp
    refine W_pu (same_ct (k := k + 2) (found told vs)) rfl rfl ?_
    rintro _ rfl -
    simp
    exact hn _ ⟨.v (ti vs), by simp⟩
  · rintro g ⟨r4, rfl⟩
    simp [b_law_state_2]
    exact q _ _ rfl rfl
/-- what a deed makes of a tally -/
def after (t : Tl) (x : Deed) : Tl := match x.way with
  | .put => putT t x.vs (((lk t x.vs).getD (0, 0)).1 + 1, ((lk t x.vs).getD (0, 0)).2 + x.amt)
  | .load => putT t x.vs (x.giv, x.amt)
  | .close => delT t x.vs
theorem Inv.snoc (h : Inv t told menu) (x : Deed) (hx : x.vs ∈ menu ∧ 1 ≤ x.giv) : Inv (after t x) (told ++ [x]) menu := by
  have hm : ∀ y ∈ told ++ [x], y.vs ∈ menu ∧ 1 ≤ y.giv := by
    intro y hy
    rcases List.mem_append.mp hy with hy | hy
    · exact h.mem y hy
    · simp at hy; subst hy; exact hx
  have hp := found_pos told (fun y hy => (h.mem y hy).2) x.vs
  refine ⟨?_, ?_, hm⟩
  · unfold after
    cases x.way
    · exact put_nd h.nd
    · exact put_nd h.nd
    · exact del_nd h.nd
  · intro vs
    rw [found_snoc]
    unfold after step
    by_cases e : x.vs = vs
    · subst e
      cases x.way
      · simp only [lk_put, if_true, h.getD]
        rw [if_pos]
        rcases hp with e | e
        · rw [e]; decide
        · omega
      · simp only [lk_put, if_true]
        rw [if_pos]
        omega
      · simp only [lk_del, if_true]
        rfl
    · have e' : ¬ vs = x.vs := fun z => e z.symm
      cases x.way
      · simp only [lk_put, if_neg e, if_neg e', h.lkf]
      · simp only [lk_put, if_neg e, if_neg e', h.lkf]
      · simp only [lk_del, if_neg e, if_neg e', h.lkf]
theorem deed_m (h : Inv t told menu) (hm : Menu menu) (x : Deed) : MethSp prog (k + 6) 24 n [.lst (told.map Deed.d), x.d] (inst t) (inst (after t x)) (fun r => r = .val (.bl true)) := by
  refine MethSp.mk_ (k := k + 4) (F := f_law_deed) rfl rfl fun cs Q hI q _ => ?_
  have hlen := h.len hm
  obtain ⟨side, way, vs, amt, giv⟩ := x
  cases way
  · simp [b_law_deed, Deed.d, Way.s, eq_pp, hI]
    refine ⟨⟨rfl, rfl⟩, ?_⟩
    refine W_me (put_m (k := k + 2) (t := t) (vs := vs) (by omega)) rfl rfl hI ?_
    rintro _ rfl -
    simp
    exact q _ _ rfl rfl
  · simp [b_law_deed, Deed.d, Way.s, eq_lp, eq_ll, hI]
    refine ⟨⟨rfl, rfl⟩, ?_⟩
    refine W_me (load_m (k := k + 3) (t := t) (vs := vs) (by omega)) rfl rfl hI ?_
    rintro _ rfl -
    simp
    exact q _ _ rfl rfl
  · simp [b_law_deed, Deed.d, Way.s, eq_cp, eq_cl, hI]
    refine ⟨⟨rfl, rfl⟩, ?_⟩
    refine W_me (close_m (k := k + 2) (t := t) (vs := vs)) rfl rfl hI ?_
    rintro _ rfl -
    rw [h.getD]
    simp
    refine W_pu (found_p (k := k + 3) told vs) rfl rfl ?_
    rintro _ rfl -
    simp
    refine W_pu (same_ct (k := k + 2) (found told vs)) rfl rfl ?_
    rintro _ rfl -
    exact ⟨rfl, q _ _ rfl rfl⟩
/-- a new list of deeds -/
def DeedsR (B : List Deed → Prop) (r : Res) : Prop := ∃ l : List Deed, r = .fresh (.lst (l.map Deed.d)) ∧ B l
def DeedOk (m0 m1 : List (List Int)) (x : Deed) : Prop := (x.side = 0 ∧ x.vs ∈ m0 ∨ x.side = 1 ∧ x.vs ∈ m1) ∧ 1 ≤ x.giv
theorem few_ok (m : List (List Int)) (h : m ≠ []) (v : Int) (hv : 1 ≤ v) : ∃ few : List (List Int), cutD (m.map ti) none (some v) = few.map ti ∧ few ≠ [] ∧ few.length ≤ m.length ∧ ∀ x ∈ few, x ∈ m := by
  have h1 := List.length_pos_iff.mpr h
  refine ⟨m.take (min v.toNat m.length), ?_, ?_, ?_, ?_⟩
  · simp [cutD, sIx, show ¬ v < 0 by omega]
  · intro e
    have := congrArg List.length e
    rw [List.length_take, List.length_nil] at this
    omega
  · rw [List.length_take]; omega
  · intro x hx; exact List.mem_of_mem_take hx
theorem deeds_d (m0 m1 : List (List Int)) (many : Nat) (h0 : m0 ≠ []) (h1 : m1 ≠ []) (l0 : m0.length ≤ 60) (l1 : m1.length ≤ 60) (hmany : many ≤ 62) :
    DrawSp prog (k + 8) 25 2000 [.lst [.lst (m0.map ti), .lst (m1.map ti)], .int many] (DeedsR fun l => l.length = many ∧ ∀ x ∈ l, DeedOk m0 m1 x) := by
  refine DrawSp.mk_ (k := k + 6) (F := f_law_deeds) rfl rfl fun n c cs Q hc q _ => ?_
  simp [b_law_deeds]
  refine W_rng (fun j g => ∃ (l : List Deed) (c : C) (r4 r5 r6 r7 r8 r9 : Dead), g = ⟨[.ref c, .val (.lst [.lst (m0.map ti), .lst (m1.map ti)]), .val (.int many), .own (.lst (l.map Deed.d)), r4.1, r5.1, r6.1, r7.1, r8.1, r9.1], cs⟩ ∧ l.length = j ∧ (∀ x ∈ l, DeedOk m0 m1 x) ∧ StOk (n + 2000 - 20 * j) c) ?_ (by omega) (by omega) ?_ ?_
  · exact ⟨[], c, .un, .un, .un, .un, .un, .un, rfl, rfl, by simp, hc⟩
  · rintro j g R hj ⟨l, c, r4, r5, r6, r7, r8, r9, rfl, hl, hok, hc⟩ hn - - -
    simp [b_law_deeds_1]
    refine W_dr (dr.tk 2 (by omega) (by omega)) rfl rfl hc (by omega) rfl ?_
    rintro c1 _ hc1 ⟨w, rfl, w0, w1⟩ -
    rcases (show w = 0 ∨ w = 1 by omega) with rfl | rfl
    · simp
      obtain ⟨few, e, f0, fl, fm⟩ := few_ok m0 h0 (if (m0.length : Int) - 1 > 1 then (m0.length : Int) - 1 else 1) (by split <;> omega)
      simp [show m0.length ≤ 16777216 by omega, e]
      refine W_dr (dr.pickd [D.str "put", D.str "put", D.str "load", D.str "put", D.str "close", D.str "put"] (by simp) (by decide)) rfl rfl hc1 (by omega) rfl ?_
      rintro c2 _ hc2 ⟨d, hd, rfl⟩ -
      obtain ⟨way, rfl⟩ : ∃ way : Way, d = .str way.s := by
        simp only [List.mem_cons, List.not_mem_nil, or_false] at hd
        rcases hd with h | h | h | h | h | h <;> first | exact ⟨.put, h⟩ | exact ⟨.load, h⟩ | exact ⟨.close, h⟩
      simp
      refine W_dr (amount_d (k := k + 1)) rfl rfl hc2 (by omega) rfl ?_
      rintro c3 _ hc3 ⟨amt, rfl, -⟩ -
      simp
      refine W_dr (dr.picki [1, 2, 3, 1, 7, (if amt < 0 then -amt else amt) + 1] (by simp) (by simp)) rfl rfl hc3 (by omega) rfl ?_
      rintro c4 _ hc4 ⟨giv, rfl, hg⟩ -
      have hg1 : 1 ≤ giv := by
        simp only [List.mem_cons, List.not_mem_nil, or_false] at hg
        rcases hg with h | h | h | h | h | h <;> rw [h] <;> omega
      simp
      refine W_dr (dr.pickd (few.map ti) (by simpa using f0) (by rw [List.length_map]; omega)) rfl rfl hc4 (by omega) rfl ?_
      rintro c5 _ hc5 ⟨d, hd, rfl⟩ -
      obtain ⟨vs, hv, rfl⟩ := List.mem_map.mp hd
      simp [hl]
      refine ⟨by omega, hn _ ⟨l ++ [⟨0, way, vs, amt, giv⟩], c5, .v _, .v _, .v _, .v _, .v _, .v _, by simp [Deed.d]; exact ⟨rfl, rfl, rfl, rfl, rfl, rfl⟩, by simp [hl], ?_, hc5.le (by omega)⟩⟩
      intro x hx
      rcases List.mem_append.mp hx with hx | hx
      · exact hok x hx
      · simp at hx
        subst hx
        exact ⟨.inl ⟨rfl, fm vs hv⟩, hg1⟩
    · simp
      obtain ⟨few, e, f0, fl, fm⟩ := few_ok m1 h1 (if (m1.length : Int) - 1 > 1 then (m1.length : Int) - 1 else 1) (by split <;> omega)
      simp [show m1.length ≤ 16777216 by omega, e]
      refine W_dr (dr.pickd [D.str "put", D.str "put", D.str "load", D.str "put", D.str "close", D.str "put"] (by simp) (by decide)) rfl rfl hc1 (by omega) rfl ?_
      rintro c2 _ hc2 ⟨d, hd, rfl⟩ -
      obtain ⟨way, rfl⟩ : ∃ way : Way, d = .str way.s := by
        simp only [List.mem_cons, List.not_mem_nil, or_false] at hd
        rcases hd with h | h | h | h | h | h <;> first | exact ⟨.put, h⟩ | exact ⟨.load, h⟩ | exact ⟨.close, h⟩
      simp
      refine W_dr (amount_d (k := k + 1)) rfl rfl hc2 (by omega) rfl ?_
      rintro c3 _ hc3 ⟨amt, rfl, -⟩ -
      simp
      refine W_dr (dr.picki [1, 2, 3, 1, 7, (if amt < 0 then -amt else amt) + 1] (by simp) (by simp)) rfl rfl hc3 (by omega) rfl ?_
      rintro c4 _ hc4 ⟨giv, rfl, hg⟩ -
      have hg1 : 1 ≤ giv := by
        simp only [List.mem_cons, List.not_mem_nil, or_false] at hg
        rcases hg with h | h | h | h | h | h <;> rw [h] <;> omega
      simp
      refine W_dr (dr.pickd (few.map ti) (by simpa using f0) (by rw [List.length_map]; omega)) rfl rfl hc4 (by omega) rfl ?_
      rintro c5 _ hc5 ⟨d, hd, rfl⟩ -
      obtain ⟨vs, hv, rfl⟩ := List.mem_map.mp hd
      simp [hl]
      refine ⟨by omega, hn _ ⟨l ++ [⟨1, way, vs, amt, giv⟩], c5, .v _, .v _, .v _, .v _, .v _, .v _, by simp [Deed.d]; exact ⟨rfl, rfl, rfl, rfl, rfl, rfl⟩, by simp [hl], ?_, hc5.le (by omega)⟩⟩
      intro x hx
      rcases List.mem_append.mp hx with hx | hx
      · exact hok x hx
      · simp at hx
        subst hx
        exact ⟨.inr ⟨rfl, fm vs hv⟩, hg1⟩
  · rintro g ⟨l, c, r4, r5, r6, r7, r8, r9, rfl, hl, hok, hc⟩
    simp [b_law_deeds_2]
    exact q _ _ _ _ hc (by omega) rfl ⟨l, rfl, by omega, hok⟩
theorem init_m {cs : List Inst} : Cl (Iv.run prog (k + 2)) 0 [.v (.cell cs.length)] (cs ++ [⟨"Tally", []⟩]) fun r outs cs' => outs = [] ∧ cs' = cs ++ [inst []] ∧ r = .val .non := by
  refine Cl_fn (F := f_Tally_init) rfl rfl ?_
  simp [b_Tally_init, noCont]
  exact rfl
end
end K25
set_option linter.all false
set_option autoImplicit false
set_option maxRecDepth 100000
set_option maxHeartbeats 2000000
/-! K25f: the law. -/
namespace K25
open PySem (Str)
open Iv
section
variable {k : Nat}
def of (i : Int) (l : List Deed) : List Deed := l.filter fun x => decide (x.side = i)
theorem of_snoc (i : Int) (l : List Deed) (x : Deed) : of i (l ++ [x]) = if x.side = i then of i l ++ [x] else of i l := by
  unfold of
  rw [List.filter_append]
  split <;> simp [*]
theorem inv_nil {m : List (List Int)} : Inv [] [] m := ⟨by simp, by intro vs; rfl, by simp⟩
theorem law_c (ns : List Int) (hns : ns.length ≤ 63) : ∃ cs, Iv.run prog (k + 10) 26 [.v (.scr ns)] [] = some (.ok (.val (.bl true)), [], cs) := by
  refine law_mk (k := k + 8) (F := f_law) rfl rfl fun Q q => ?_
  -- behind the draws
  have f2 : ∀ (m : Nat) (c : C) (great : Bool) (m0 m1 : List (List Int)) (many : Int), StOk m c → 100000 ≤ m → m0 ≠ [] → m1 ≠ [] → Menu m0 → Menu m1 → 0 ≤ many → many ≤ 62 →
      W (exs (prog.pg (Iv.run prog (k + 9)) (Iv.run prog (k + 8))) b_law_2) ⟨[.val (.scr ns), .own c, .val (.bl great), .val (.lst [.lst (m0.map ti), .lst (m1.map ti)]), .val (.int many), .un, .un, .un, .un, .un, .un], []⟩ Q := by
    intro m c great m0 m1 many hc hm e0 e1 M0 M1 h0 h1
    obtain ⟨many, rfl⟩ := Int.eq_ofNat_of_zero_le h0
    simp [b_law_2]
    refine W_dro (deeds_d (k := k + 1) m0 m1 many e0 e1 M0.len M1.len (by omega)) rfl rfl hc (by omega) rfl ?_
    rintro c1 _ hc1 ⟨L, rfl, hL, hok⟩ -
    simp [hL, show many ≤ 16777216 by omega]
    refine W_init (xs := []) (init_m (k := k + 6) (cs := [])) rfl rfl ?_
    simp
    refine W_init (xs := []) (init_m (k := k + 6) (cs := [inst []])) rfl rfl ?_
    simp [hL, show many ≤ 16777216 by omega]
    refine W_rng (fun j g => ∃ (t0 t1 : Tl) (r8 r9 r10 : Dead), g = ⟨[.val (.scr ns), .own c1, .val (.bl great), .val (.lst [.lst (m0.map ti), .lst (m1.map ti)]), .val (.int many), .val (.lst (L.map Deed.d)), .val (.lst [.cell 0, .cell 1]), .own (.lst [.lst ((of 0 (L.take j)).map Deed.d), .lst ((of 1 (L.take j)).map Deed.d)]), r8.1, r9.1, r10.1], [inst t0, inst t1]⟩ ∧ Inv t0 (of 0 (L.take j)) m0 ∧ Inv t1 (of 1 (L.take j)) m1) ?_ (by omega) (by omega) ?_ ?_
    · exact ⟨[], [], .un, .un, .un, rfl, inv_nil, inv_nil⟩
    · rintro j g R hj ⟨t0, t1, r8, r9, r10, rfl, I0, I1⟩ hn - - hr
      have hjL : j < L.length := by omega
      have hx : L[j]? = some L[j] := List.getElem?_eq_getElem hjL
      have hxok := hok _ (List.getElem_mem hjL)
      have htake : L.take (j + 1) = L.take j ++ [L[j]] := by rw [List.take_add_one, hx]; rfl
      rw [htake] at hn
      simp only [of_snoc] at hn
      generalize hxe : L[j] = x at *
      generalize ho0 : of 0 (L.take j) = l0 at *
      generalize ho1 : of 1 (L.take j) = l1 at *
      -- the look at both tallies
      have look : ∀ (t0 t1 : Tl) (l0 l1 : List Deed) (r9 : Dead) (Q2 : Flow → Sg → Prop), Inv t0 l0 m0 → Inv t1 l1 m1 → (∀ r10 : Dead, Q2 .next ⟨[.val (.scr ns), .own c1, .val (.bl great), .val (.lst [.lst (m0.map ti), .lst (m1.map ti)]), .val (.int many), .val (.lst (L.map Deed.d)), .val (.lst [.cell 0, .cell 1]), .own (.lst [.lst (l0.map Deed.d), .lst (l1.map Deed.d)]), .val (.int j), r9.1, r10.1], [inst t0, inst t1]⟩) →
          Rg 2 fun ds => W (loopS (.nm 10) (exs (prog.pg (Iv.run prog (k + 8 + 1)) (Iv.run prog (k + 8))) b_law_4) ds) ⟨[.val (.scr ns), .own c1, .val (.bl great), .val (.lst [.lst (m0.map ti), .lst (m1.map ti)]), .val (.int many), .val (.lst (L.map Deed.d)), .val (.lst [.cell 0, .cell 1]), .own (.lst [.lst (l0.map Deed.d), .lst (l1.map Deed.d)]), .val (.int j), r9.1, r10.1], [inst t0, inst t1]⟩ Q2 := by
        intro t0 t1 l0 l1 r9 Q2 I0 I1 q2
        refine W_rng (fun i g => ∃ r10 : Dead, g = ⟨[.val (.scr ns), .own c1, .val (.bl great), .val (.lst [.lst (m0.map ti), .lst (m1.map ti)]), .val (.int many), .val (.lst (L.map Deed.d)), .val (.lst [.cell 0, .cell 1]), .own (.lst [.lst (l0.map Deed.d), .lst (l1.map Deed.d)]), .val (.int j), r9.1, r10.1], [inst t0, inst t1]⟩) ⟨r10, rfl⟩ (by omega) (by omega) ?_ ?_
        · rintro i g R hi ⟨r10, rfl⟩ hn - - -
          rcases (show i = 0 ∨ i = 1 by omega) with rfl | rfl
          · simp [b_law_4]
            refine W_me (state_m (k := k + 3) (n := 0) I0 M0) rfl rfl rfl ?_
            rintro _ rfl -
            simp
            exact hn _ ⟨.v (.int 0), by simp⟩
          · simp [b_law_4]
            refine W_me (state_m (k := k + 3) (n := 1) I1 M1) rfl rfl rfl ?_
            rintro _ rfl -
            simp
            exact hn _ ⟨.v (.int 1), by simp⟩
        · rintro g ⟨r10, rfl⟩
          exact q2 r10
      rcases hxok.1 with ⟨hs, hv⟩ | ⟨hs, hv⟩
      · have e0 : subD x.d (.int 0) = some (.val (.int 0)) := by simp [Deed.d, hs]
        have hlen : l0.length ≤ 62 := by
          rw [← ho0]
          have h1 := List.length_filter_le (fun x : Deed => decide (x.side = 0)) (L.take j)
          have h2 : (L.take j).length ≤ 62 := by rw [List.length_take]; omega
          exact Nat.le_trans h1 h2
        rw [hs] at hn
        simp only [if_true, if_neg (show ¬ (0 : Int) = 1 by decide)] at hn
        simp [b_law_3, hj, hjL, hxe, e0]
        refine W_me (deed_m (k := k + 3) (n := 0) I0 M0 x) rfl rfl rfl ?_
        rintro _ rfl -
        simp [hj, hjL, hxe, show l0.length + 1 ≤ 16777216 by omega]
        have fin : ∀ r10 : Dead, R .next ⟨[.val (.scr ns), .own c1, .val (.bl great), .val (.lst [.lst (m0.map ti), .lst (m1.map ti)]), .val (.int many), .val (.lst (L.map Deed.d)), .val (.lst [.cell 0, .cell 1]), .own (.lst [.lst ((l0 ++ [x]).map Deed.d), .lst ((l1).map Deed.d)]), .val (.int j), .val (.int 0), r10.1], [inst (after t0 x), inst t1]⟩ := fun r10 => hn _ ⟨after t0 x, t1, .v (.int j), .v (.int 0), r10, rfl, I0.snoc x ⟨hv, hxok.2⟩, I1⟩
        have e1 : l0.map Deed.d ++ [x.d] = (l0 ++ [x]).map Deed.d := by simp
        rw [e1]
        split
        · split
          · refine look _ _ _ _ (.v (.int 0)) _ (I0.snoc x ⟨hv, hxok.2⟩) I1 fun r10 => ?_
            simpa using fin r10
          · exact fin _
        · refine look _ _ _ _ (.v (.int 0)) _ (I0.snoc x ⟨hv, hxok.2⟩) I1 fun r10 => ?_
          simpa using fin r10
      · have e0 : subD x.d (.int 0) = some (.val (.int 1)) := by simp [Deed.d, hs]
        have hlen : l1.length ≤ 62 := by
          rw [← ho1]
          have h1 := List.length_filter_le (fun x : Deed => decide (x.side = 1)) (L.take j)
          have h2 : (L.take j).length ≤ 62 := by rw [List.length_take]; omega
          exact Nat.le_trans h1 h2
        rw [hs] at hn
        simp only [if_true, if_neg (show ¬ (1 : Int) = 0 by decide)] at hn
        simp [b_law_3, hj, hjL, hxe, e0]
        refine W_me (deed_m (k := k + 3) (n := 1) I1 M1 x) rfl rfl rfl ?_
        rintro _ rfl -
        simp [hj, hjL, hxe, show l1.length + 1 ≤ 16777216 by omega]
        have fin : ∀ r10 : Dead, R .next ⟨[.val (.scr ns), .own c1, .val (.bl great), .val (.lst [.lst (m0.map ti), .lst (m1.map ti)]), .val (.int many), .val (.lst (L.map Deed.d)), .val (.lst [.cell 0, .cell 1]), .own (.lst [.lst ((l0).map Deed.d), .lst ((l1 ++ [x]).map Deed.d)]), .val (.int j), .val (.int 1), r10.1], [inst t0, inst (after t1 x)]⟩ := fun r10 => hn _ ⟨t0, after t1 x, .v (.int j), .v (.int 1), r10, rfl, I0, I1.snoc x ⟨hv, hxok.2⟩⟩
        have e1 : l1.map Deed.d ++ [x.d] = (l1 ++ [x]).map Deed.d := by simp
        rw [e1]
        split
        · split
          · refine look _ _ _ _ (.v (.int 1)) _ I0 (I1.snoc x ⟨hv, hxok.2⟩) fun r10 => ?_
            simpa using fin r10
          · exact fin _
        · refine look _ _ _ _ (.v (.int 1)) _ I0 (I1.snoc x ⟨hv, hxok.2⟩) fun r10 => ?_
          simpa using fin r10
    · rintro g ⟨t0, t1, r8, r9, r10, rfl, I0, I1⟩
      simp [b_law_5]
      refine W_init (xs := []) (init_m (k := k + 6) (cs := [inst t0, inst t1])) rfl rfl ?_
      simp
      refine W_me (state_m (k := k + 3) (n := 2) (told := []) inv_nil M0) rfl rfl rfl ?_
      rintro _ rfl -
      simp
      refine W_me (state_m (k := k + 3) (n := 0) I0 M0) rfl rfl rfl ?_
      rintro _ rfl -
      simp
      refine W_me (state_m (k := k + 3) (n := 1) I1 M1) rfl rfl rfl ?_
      rintro _ rfl -
      simp
      exact q _
  have f1 : ∀ (m : Nat) (c : C) (great : Bool) (m0 m1 : List (List Int)), StOk m c → 200000 ≤ m → m0 ≠ [] → m1 ≠ [] → Menu m0 → Menu m1 →
      W (exs (prog.pg (Iv.run prog (k + 9)) (Iv.run prog (k + 8))) b_law_1) ⟨[.val (.scr ns), .own c, .val (.bl great), .val (.lst [.lst (m0.map ti), .lst (m1.map ti)]), .un, .un, .un, .un, .un, .un, .un], []⟩ Q := by
    intro m c great m0 m1 hc hm e0 e1 M0 M1
    simp [b_law_1]
    refine W_dro (size_d (k := k + 3)) rfl rfl hc (by omega) rfl ?_
    rintro c1 _ hc1 ⟨v, rfl, v0, v1⟩ -
    simp
    split
    · exact f2 _ _ _ _ _ _ hc1 (by omega) e0 e1 M0 M1 (by omega) (by omega)
    · exact f2 _ _ _ _ _ _ hc1 (by omega) e0 e1 M0 M1 v0 (by omega)
  simp [b_law]
  refine W_callM (xs := [.v (.scr ns)]) rfl rfl (by simp [refsOf]) (Cl_mono (store_sp (k := k + 7) (i := 7) rfl hns) ?_)
  rintro r o cs' ⟨rfl, rfl, ds, rfl, hds⟩
  simp [refsOf]
  refine W_dro (dr.tk 16 (by omega) (by omega)) rfl rfl hds (by omega) rfl ?_
  rintro c1 _ hc1 ⟨g, rfl, g0, g1⟩ -
  simp
  refine W_dro (menu_d (k := k + 2) _) rfl rfl hc1 (by omega) rfl ?_
  rintro c2 _ hc2 ⟨m0, rfl, e0, n0, l0, z0⟩ -
  simp
  refine W_dro (menu_d (k := k + 2) _) rfl rfl hc2 (by omega) rfl ?_
  rintro c3 _ hc3 ⟨m1, rfl, e1, n1, l1, z1⟩ -
  simp
  refine W_dro (dr.tk 2 (by omega) (by omega)) rfl rfl hc3 (by omega) rfl ?_
  rintro c4 _ hc4 ⟨b, rfl, b0, b1⟩ -
  simp
  split
  · exact f1 _ _ _ _ _ hc4 (by omega) e0 e0 ⟨n0, l0, z0⟩ ⟨n0, l0, z0⟩
  · exact f1 _ _ _ _ _ hc4 (by omega) e0 e1 ⟨n0, l0, z0⟩ ⟨n1, l1, z1⟩
end
theorem law_all (ns : List Int) (hns : ns.length ≤ 63) : ∃ cs, Iv.run prog 60 lawIx [.v (.scr ns)] [] = some (.ok (.val (.bl true)), [], cs) := law_c (k := 50) ns hns
end K25
set_option maxHeartbeats 8000000
namespace K25
open PySem Iv
def top (i : Nat) : Stmt := PySem.Challenge.pw_rowsletgo_k25_tally_counts_and_sums.main.body.getD i (.Pass ⟨0, 0, 0, 0⟩)
def sub (i j : Nat) : Stmt := (subs (top i)).getD j (.Pass ⟨0, 0, 0, 0⟩)
def d_Tally_init : He.DefD := ⟨("Tally", some "__init__"), "__init__", "Tally.__init__", L2.defArgs (sub 1 0), L2.defBody (sub 1 0), L2.defScope (sub 1 0), [], []⟩
def d_Tally_contains : He.DefD := ⟨("Tally", some "__contains__"), "__contains__", "Tally.__contains__", L2.defArgs (sub 1 1), L2.defBody (sub 1 1), L2.defScope (sub 1 1), [], []⟩
def d_Tally_put : He.DefD := ⟨("Tally", some "put"), "put", "Tally.put", L2.defArgs (sub 1 2), L2.defBody (sub 1 2), L2.defScope (sub 1 2), [], []⟩
def d_Tally_groups : He.DefD := ⟨("Tally", some "groups"), "groups", "Tally.groups", L2.defArgs (sub 1 3), L2.defBody (sub 1 3), L2.defScope (sub 1 3), [], []⟩
def d_Tally_tallied : He.DefD := ⟨("Tally", some "tallied"), "tallied", "Tally.tallied", L2.defArgs (sub 1 4), L2.defBody (sub 1 4), L2.defScope (sub 1 4), [], []⟩
def d_Tally_close : He.DefD := ⟨("Tally", some "close"), "close", "Tally.close", L2.defArgs (sub 1 5), L2.defBody (sub 1 5), L2.defScope (sub 1 5), [], []⟩
def d_Tally_load : He.DefD := ⟨("Tally", some "load"), "load", "Tally.load", L2.defArgs (sub 1 6), L2.defBody (sub 1 6), L2.defScope (sub 1 6), [], []⟩
def d_law_store : He.DefD := ⟨("_law_store", none), "_law_store", "_law_store", L2.defArgs (top 3), L2.defBody (top 3), L2.defScope (top 3), [], []⟩
def d_law_next : He.DefD := ⟨("_law_next", none), "_law_next", "_law_next", L2.defArgs (top 4), L2.defBody (top 4), L2.defScope (top 4), [], []⟩
def d_law_mix : He.DefD := ⟨("_law_mix", none), "_law_mix", "_law_mix", L2.defArgs (top 5), L2.defBody (top 5), L2.defScope (top 5), [], []⟩
def d_law_take : He.DefD := ⟨("_law_take", none), "_law_take", "_law_take", L2.defArgs (top 6), L2.defBody (top 6), L2.defScope (top 6), [], []⟩
def d_law_pick : He.DefD := ⟨("_law_pick", none), "_law_pick", "_law_pick", L2.defArgs (top 7), L2.defBody (top 7), L2.defScope (top 7), [], []⟩
def d_law_figures : He.DefD := ⟨("_law_figures", none), "_law_figures", "_law_figures", L2.defArgs (top 8), L2.defBody (top 8), L2.defScope (top 8), [], []⟩
def d_law_low : He.DefD := ⟨("_law_low", none), "_law_low", "_law_low", L2.defArgs (top 9), L2.defBody (top 9), L2.defScope (top 9), [], []⟩
def d_law_pool : He.DefD := ⟨("_law_pool", none), "_law_pool", "_law_pool", L2.defArgs (top 10), L2.defBody (top 10), L2.defScope (top 10), [], []⟩
def d_law_value : He.DefD := ⟨("_law_value", none), "_law_value", "_law_value", L2.defArgs (top 11), L2.defBody (top 11), L2.defScope (top 11), [], []⟩
def d_law_vast : He.DefD := ⟨("_law_vast", none), "_law_vast", "_law_vast", L2.defArgs (top 12), L2.defBody (top 12), L2.defScope (top 12), [], []⟩
def d_law_size : He.DefD := ⟨("_law_size", none), "_law_size", "_law_size", L2.defArgs (top 13), L2.defBody (top 13), L2.defScope (top 13), [], []⟩
def d_law_like : He.DefD := ⟨("_law_like", none), "_law_like", "_law_like", L2.defArgs (top 14), L2.defBody (top 14), L2.defScope (top 14), [], []⟩
def d_law_same : He.DefD := ⟨("_law_same", none), "_law_same", "_law_same", L2.defArgs (top 15), L2.defBody (top 15), L2.defScope (top 15), [], []⟩
def d_law_menu : He.DefD := ⟨("_law_menu", none), "_law_menu", "_law_menu", L2.defArgs (top 16), L2.defBody (top 16), L2.defScope (top 16), [], []⟩
def d_law_amount : He.DefD := ⟨("_law_amount", none), "_law_amount", "_law_amount", L2.defArgs (top 17), L2.defBody (top 17), L2.defScope (top 17), [], []⟩
def d_law_found : He.DefD := ⟨("_law_found", none), "_law_found", "_law_found", L2.defArgs (top 18), L2.defBody (top 18), L2.defScope (top 18), [], []⟩
def d_law_state : He.DefD := ⟨("_law_state", none), "_law_state", "_law_state", L2.defArgs (top 19), L2.defBody (top 19), L2.defScope (top 19), [], []⟩
def d_law_deed : He.DefD := ⟨("_law_deed", none), "_law_deed", "_law_deed", L2.defArgs (top 20), L2.defBody (top 20), L2.defScope (top 20), [], []⟩
def d_law_deeds : He.DefD := ⟨("_law_deeds", none), "_law_deeds", "_law_deeds", L2.defArgs (top 21), L2.defBody (top 21), L2.defScope (top 21), [], []⟩
def d_law : He.DefD := ⟨("law", none), "law", "law", L2.defArgs (top 22), L2.defBody (top 22), L2.defScope (top 22), [], []⟩
def desc : Desc where
  defs := [(d_Tally_init, ["self"], ["self"]),
    (d_Tally_contains, ["self", "values"], ["self", "values"]),
    (d_Tally_put, ["self", "values", "amount", "count", "total"], ["self", "values", "amount"]),
    (d_Tally_groups, ["self"], ["self"]),
    (d_Tally_tallied, ["self", "values"], ["self", "values"]),
    (d_Tally_close, ["self", "values", "pair"], ["self", "values"]),
    (d_Tally_load, ["self", "values", "count", "total"], ["self", "values", "count", "total"]),
    (d_law_store, ["script", "cells", "seed", "cell", "size"], ["script"]),
    (d_law_next, ["store", "cell"], ["store"]),
    (d_law_mix, ["seed", "turn", "value"], ["seed", "turn"]),
    (d_law_take, ["store", "many", "digit", "turn"], ["store", "many"]),
    (d_law_pick, ["store", "row"], ["store", "row"]),
    (d_law_figures, ["store", "figures", "edge", "k", "least", "way", "value"], ["store", "figures"]),
    (d_law_low, ["store"], ["store"]),
    (d_law_pool, ["store", "value", "told", "k", "way", "gap"], ["store"]),
    (d_law_value, ["store", "pool", "way"], ["store", "pool"]),
    (d_law_vast, ["store", "value", "k"], ["store"]),
    (d_law_size, ["store"], ["store"]),
    (d_law_like, ["one", "due"], ["one", "due"]),
    (d_law_same, ["one", "due", "level", "depth", "below", "actual", "wanted", "k"], ["one", "due"]),
    (d_law_menu, ["store", "great", "size", "pool", "many", "told", "k", "values", "j"], ["store", "great"]),
    (d_law_amount, ["store", "way"], ["store"]),
    (d_law_found, ["told", "values", "count", "total", "which", "way", "group", "amount", "given"], ["told", "values"]),
    (d_law_state, ["tally", "told", "menu", "due", "values", "groups"], ["tally", "told", "menu"]),
    (d_law_deed, ["tally", "told", "deed", "which", "way", "values", "amount", "given"], ["tally", "told", "deed"]),
    (d_law_deeds, ["store", "menus", "many", "deeds", "k", "which", "few", "way", "amount", "given"], ["store", "menus", "many"]),
    (d_law, ["script", "store", "great", "menus", "many", "deeds", "tallies", "told", "k", "which", "side"], ["script"])]
  fns := fns
  fnL := fnL
  mtL := mtL
  inL := inL
  fldL := fldL
  frL := frL
  intL := intL
  strL := strL
theorem prog_eq : desc.prog = prog := rfl
/-! ### it stands for the row -/
theorem okd : desc.ok = true := by decide +kernel
theorem bnds : Bnds desc.defs := ⟨(fun _ _ _ _ _ _ us hl => match us, hl with | [_], _ => rfl), (fun _ _ _ _ _ _ us hl => match us, hl with | [_, _], _ => rfl), (fun _ _ _ _ _ _ us hl => match us, hl with | [_, _, _], _ => rfl), (fun _ _ _ _ _ _ us hl => match us, hl with | [_], _ => rfl), (fun _ _ _ _ _ _ us hl => match us, hl with | [_, _], _ => rfl), (fun _ _ _ _ _ _ us hl => match us, hl with | [_, _], _ => rfl), (fun _ _ _ _ _ _ us hl => match us, hl with | [_, _, _, _], _ => rfl), (fun _ _ _ _ _ _ us hl => match us, hl with | [_], _ => rfl), (fun _ _ _ _ _ _ us hl => match us, hl with | [_], _ => rfl), (fun _ _ _ _ _ _ us hl => match us, hl with | [_, _], _ => rfl), (fun _ _ _ _ _ _ us hl => match us, hl with | [_, _], _ => rfl), (fun _ _ _ _ _ _ us hl => match us, hl with | [_, _], _ => rfl), (fun _ _ _ _ _ _ us hl => match us, hl with | [_, _], _ => rfl), (fun _ _ _ _ _ _ us hl => match us, hl with | [_], _ => rfl), (fun _ _ _ _ _ _ us hl => match us, hl with | [_], _ => rfl), (fun _ _ _ _ _ _ us hl => match us, hl with | [_, _], _ => rfl), (fun _ _ _ _ _ _ us hl => match us, hl with | [_], _ => rfl), (fun _ _ _ _ _ _ us hl => match us, hl with | [_], _ => rfl), (fun _ _ _ _ _ _ us hl => match us, hl with | [_, _], _ => rfl), (fun _ _ _ _ _ _ us hl => match us, hl with | [_, _], _ => rfl), (fun _ _ _ _ _ _ us hl => match us, hl with | [_, _], _ => rfl), (fun _ _ _ _ _ _ us hl => match us, hl with | [_], _ => rfl), (fun _ _ _ _ _ _ us hl => match us, hl with | [_, _], _ => rfl), (fun _ _ _ _ _ _ us hl => match us, hl with | [_, _, _], _ => rfl), (fun _ _ _ _ _ _ us hl => match us, hl with | [_, _, _], _ => rfl), (fun _ _ _ _ _ _ us hl => match us, hl with | [_, _, _], _ => rfl), (fun _ _ _ _ _ _ us hl => match us, hl with | [_], _ => rfl), trivial⟩
/-! ### the head -/
def fn : List He.DefD := [d_Tally_init, d_Tally_contains, d_Tally_put, d_Tally_groups, d_Tally_tallied, d_Tally_close, d_Tally_load, d_law_store, d_law_next, d_law_mix, d_law_take, d_law_pick, d_law_figures, d_law_low, d_law_pool, d_law_value, d_law_vast, d_law_size, d_law_like, d_law_same, d_law_menu, d_law_amount, d_law_found, d_law_state, d_law_deed, d_law_deeds, d_law]
abbrev R : PySem.W.OpenRow := PySem.W.OpenLaw.row PySem.Challenge.rw_rowsletgo_k25_tally_counts_and_sums
abbrev hk : PySem.W.Hook := He.hookD 5 desc.fa fn
def ob (s : PySem.W.SharedT) : He.AlD := He.obsDG 5 desc.fa fn (HandSHeadRun.getT s)
theorem ob_eq (s : PySem.W.SharedT) : ob s = hk.obs s.abs := He.obsDG_eq (HandSHeadRun.getT_eq s)
def loose : List Str := ["Tally", "_law_store", "_law_next", "_law_mix", "_law_take", "_law_pick", "_law_figures", "_law_low", "_law_pool", "_law_value", "_law_vast", "_law_size", "_law_like", "_law_same", "_law_menu", "_law_amount", "_law_found", "_law_state", "_law_deed", "_law_deeds"]
theorem run (w : World) : HandSHeadRun.RunEq R (PySem.W.view R.prog [22]) hk ob 20000 loose w := by
  intro os
  kernel_rfl
abbrev lawTop : Nat := 22
end K25
open PySem PySem.W PySem.Calls PyProof.Rows
theorem K25.holds_of (hlaw : ∀ ns : List Int, ns.length ≤ 63 → ∃ cs, Iv.run K25.prog 60 K25.lawIx [.v (.scr ns)] [] = some (.ok (.val (.bl true)), [], cs)) : PySem.Challenge.rw_rowsletgo_k25_tally_counts_and_sums.Holds := by
  w_on; o_law
  refine HandSHeadRun.head_any (r := OpenLaw.row PySem.Challenge.rw_rowsletgo_k25_tally_counts_and_sums) (q := view (OpenLaw.row PySem.Challenge.rw_rowsletgo_k25_tally_counts_and_sums).prog [K25.lawTop]) (H := K25.hk) (ob := K25.ob) (M := 20000) (loose := K25.loose) (d := HandSHeadRun.topDef (OpenLaw.row PySem.Challenge.rw_rowsletgo_k25_tally_counts_and_sums).prog K25.lawTop) (kwd := []) K25.ob_eq
    (by kernel_rfl) (fun s => by kernel_rfl) K25.run (by kernel_rfl) (by kernel_rfl) (by kernel_rfl) (by rfl) (by first | assumption | decide +kernel) (by decide +kernel) ⟨rfl, rfl, rfl, rfl, rfl, by decide +kernel⟩ ?hw ?hc
  case hw => w_witness2
  case hc =>
    refine L2.walk_ofE (l := PySem.Challenge.rw_rowsletgo_k25_tally_counts_and_sums) (n := 63) (k := 60) (x := "script") (CX := Iv.CXW (PySem.Challenge.rw_rowsletgo_k25_tally_counts_and_sums).prog) rfl (by decide) (by kernel_rfl) ⟨rfl, by decide, by decide⟩ ?F (fun _ _ _ _ z => Iv.cxw_no z)
    intro w mg fa h Y G hmg0
    have hmg : mg ("law" : PySem.Str) = some (.ref fa) := by
      have e : (HandSHeadRun.topDef (OpenLaw.row PySem.Challenge.rw_rowsletgo_k25_tally_counts_and_sums).prog K25.lawTop).name = ("law" : PySem.Str) := by kernel_rfl
      rw [← e]
      exact hmg0
    exact Iv.law_F (d := K25.desc) (li := K25.lawIx) (n := 63) K25.okd K25.bnds rfl rfl (by decide) (by decide +kernel) Y G hmg hlaw
set_option maxHeartbeats 8000000
theorem PySem.Challenge.cw_rowsletgo_k25_tally_counts_and_sums_holds : PySem.Challenge.rw_rowsletgo_k25_tally_counts_and_sums.Holds := by
  exact K25.holds_of K25.law_all
