import PyProof.Rows.All
import Wide.All
import OpenK.AllK
import Wide.FinOn
import HandS.ForMost
import HandS.ForExc
import HandS.CallSlots
import HandS.Flow
import HandS.Defaults
import HandS.TupAny
import HandS.DictEq
import KE.DataEq
import HandS.Style
import HandS.Walk
import HandS.Head0
import HandS.Head1
import HandS.Head2
import HandS.HeadEnd
import HandS.HeadHook1
import HandS.HeadHook2
import PySem.Challenge.RW_likeframes_k05_whole_conditions
import KE.KStateDown
section
set_option Elab.async false
set_option linter.all false
set_option maxRecDepth 100000
namespace Lk
open PySem

/-- a class: its number, the attributes by which == goes -/
structure Cls where
  id : Nat
  eqs : List Nat
  deriving DecidableEq

inductive Val where
  | non | bl (b : Bool) | int (i : Int) | str (x : Str)
  | tup (vs : List Val) | lst (vs : List Val) | dic (kvs : List (Val × Val))
  | obj (c : Cls) (fs : List (Nat × Val)) | loc (n : Nat) | fn (f : Nat) | cls (c : Nat) | ty (t : String)

/-- what is shared and changes -/
inductive MObj where
  | lst (vs : List Val) | dic (kvs : List (Val × Val)) | ins (c : Cls) (fs : List (Nat × Val))
abbrev Mem := List MObj
/-- a slot of a frame: nothing known, a value, a list (dict) that no one else holds -/
inductive Slot where
  | unb | pv (v : Val) | ol (vs : List Val) | od (kvs : List (Val × Val))
abbrev Env := List Slot
/-- what an expression gives: a value, a list (dict) just made -/
inductive RVal where
  | fz (v : Val) | fl (vs : List Val) | fd (kvs : List (Val × Val))
def RVal.val : RVal → Val
  | .fz v => v
  | .fl vs => .lst vs
  | .fd kvs => .dic kvs
inductive Out (α : Type) where
  | ok (a : α) (ρ : Env) (S : Mem) | exc (c : Nat) (fs : List (Nat × Val)) (ρ : Env) (S : Mem) | bad
abbrev M (α : Type) := Env → Mem → Out α
def ret {α : Type} (a : α) : M α := fun ρ S => .ok a ρ S
def bnd {α β : Type} (m : M α) (f : α → M β) : M β := fun ρ S => match m ρ S with
  | .ok a ρ S => f a ρ S
  | .exc c fs ρ S => .exc c fs ρ S
  | .bad => .bad
def fail {α : Type} : M α := fun _ _ => .bad
def opt {α : Type} : Option α → M α
  | some a => ret a
  | none => fail
/-- no exception passes -/
def quiet {α : Type} (m : M α) : M α := fun ρ S => match m ρ S with
  | .ok a ρ S => .ok a ρ S
  | _ => .bad
/-- what a call gives -/
inductive Res where
  | ok (r : RVal) (S : Mem) | exc (c : Nat) (fs : List (Nat × Val)) (S : Mem) | bad
abbrev Caller := Nat → List Val → Mem → Res
inductive Flow where
  | nx | rt (r : RVal) | bk | ct

mutual
def keq : Val → Val → Bool
  | .non, .non => true
  | .int i, .int j => decide (i = j)
  | .str x, .str y => decide (x = y)
  | .tup a, .tup b => keqs a b
  | _, _ => false
def keqs : List Val → List Val → Bool
  | [], [] => true
  | a :: r, b :: s => keq a b && keqs r s
  | _, _ => false
end
def dget (kvs : List (Val × Val)) (k : Val) : Option Val := (kvs.find? fun p => keq p.1 k).map (·.2)
def dput (kvs : List (Val × Val)) (k v : Val) : List (Val × Val) :=
  if kvs.any (fun p => keq p.1 k) then kvs.map fun p => if keq p.1 k then (p.1, v) else p else kvs ++ [(k, v)]
def merge (kvs more : List (Val × Val)) : List (Val × Val) := more.foldl (fun acc p => dput acc p.1 p.2) kvs
def b2i (b : Bool) : Int := if b then 1 else 0
mutual
@[simp] def veq : Val → Val → Bool
  | .non, .non => true
  | .bl a, .bl b => a == b
  | .bl a, .int i => decide (b2i a = i)
  | .int i, .bl a => decide (i = b2i a)
  | .int i, .int j => decide (i = j)
  | .str x, .str y => decide (x = y)
  | .tup a, .tup b => veqs a b
  | .lst a, .lst b => veqs a b
  | .dic a, .dic b => a.length == b.length && veqd a b
  | .fn a, .fn b => a == b
  | .cls a, .cls b => a == b
  | .ty a, .ty b => a == b
  | _, _ => false
@[simp] def veqs : List Val → List Val → Bool
  | [], [] => true
  | a :: r, b :: s => veq a b && veqs r s
  | _, _ => false
def veqd : List (Val × Val) → List (Val × Val) → Bool
  | [], _ => true
  | (k, v) :: r, b => (match dget b k with | some u => veq v u | none => false) && veqd r b
end

def cap : Nat := 16777216
def fitL (vs : List Val) : Option RVal := if vs.length ≤ cap then some (.fl vs) else none
@[simp] def small64 (i : Int) : Bool := decide (-(2 ^ 64) < i) && decide (i < 2 ^ 64)
@[simp] def addV : Val → Val → Option RVal
  | .int i, .int j => some (.fz (.int (i + j)))
  | .str x, .str y => if x.length + y.length ≤ cap then some (.fz (.str (x ++ y))) else none
  | .lst a, .lst b => fitL (a ++ b)
  | .tup a, .tup b => if (a ++ b).length ≤ cap then some (.fz (.tup (a ++ b))) else none
  | _, _ => none
@[simp] def subV : Val → Val → Option RVal
  | .int i, .int j => some (.fz (.int (i - j)))
  | _, _ => none
@[simp] def mulV : Val → Val → Option RVal
  | .int i, .int j => if small64 i || small64 j then some (.fz (.int (i * j))) else none
  | _, _ => none
@[simp] def fdivV : Val → Val → Option RVal
  | .int i, .int j => if 0 < j ∧ j < 1073741824 then some (.fz (.int (i / j))) else none
  | _, _ => none
@[simp] def modV : Val → Val → Option RVal
  | .int i, .int j => if 0 < j then some (.fz (.int (i % j))) else none
  | _, _ => none
@[simp] def powV : Val → Val → Option RVal
  | .int i, .int j => if 0 ≤ j ∧ j ≤ 1000 ∧ i.natAbs < 1024 then some (.fz (.int (i ^ j.toNat))) else none
  | _, _ => none
def binV : Operator → Option (Val → Val → Option RVal)
  | .Add => some addV
  | .Sub => some subV
  | .Mult => some mulV
  | .FloorDiv => some fdivV
  | .Mod => some modV
  | .Pow => some powV
  | _ => none
@[simp] def rbl (b : Bool) : Option RVal := some (.fz (.bl b))
@[simp] def ltV : Val → Val → Option RVal
  | .int i, .int j => rbl (decide (i < j))
  | _, _ => none
@[simp] def leV : Val → Val → Option RVal
  | .int i, .int j => rbl (decide (i ≤ j))
  | _, _ => none
@[simp] def gtV : Val → Val → Option RVal
  | .int i, .int j => rbl (decide (j < i))
  | _, _ => none
@[simp] def geV : Val → Val → Option RVal
  | .int i, .int j => rbl (decide (j ≤ i))
  | _, _ => none
/-- None, a bool, an int, a text -/
def flat : Val → Bool
  | .non | .bl _ | .int _ | .str _ => true
  | _ => false
mutual
@[simp] def plain : Nat → Val → Bool
  | _, .non | _, .bl _ | _, .int _ | _, .str _ => true
  | n + 1, .tup vs => plains n vs
  | n + 1, .lst vs => plains n vs
  | _, _ => false
@[simp] def plains : Nat → List Val → Bool
  | _, [] => true
  | n, v :: r => plain n v && plains n r
end
@[simp] def leaf : Val → Bool
  | .int _ | .str _ => true
  | _ => false
/-- a dict of such data -/
def dplain : Val → Bool
  | .dic kvs => kvs.all fun p => plain 59 p.2
  | _ => false
@[simp] def eqV (a b : Val) : Option RVal := if (plain 60 a && plain 60 b) || (dplain a && dplain b) then rbl (veq a b) else none
@[simp] def neV (a b : Val) : Option RVal := if (plain 60 a && plain 60 b) || (dplain a && dplain b) then rbl (!veq a b) else none
@[simp] def inL (x : Val) (vs : List Val) : Bool := vs.any fun y => veq y x
@[simp] def inV (neg : Bool) : Val → Val → Option RVal
  | x, .lst vs => if plain 60 x && plains 60 vs then rbl (xor neg (inL x vs)) else none
  | x, .tup vs => if plain 60 x && plains 60 vs then rbl (xor neg (inL x vs)) else none
  | x, .dic kvs => if leaf x then rbl (xor neg (dget kvs x).isSome) else none
  | _, _ => none
@[simp] def getV : Val → Val → Option RVal
  | .lst vs, .int i => (L2.atI vs i).map .fz
  | .tup vs, .int i => (L2.atI vs i).map .fz
  | .str x, .int i => if x.length ≤ cap then (L2.atI x.cps.toList i).map fun c => .fz (.str ⟨#[c]⟩) else none
  | .dic kvs, k => if leaf k then (dget kvs k).map .fz else none
  | _, _ => none
def cmpV : CmpOp → Option (Val → Val → Option RVal)
  | .Eq => some eqV
  | .NotEq => some neV
  | .Lt => some ltV
  | .LtE => some leV
  | .Gt => some gtV
  | .GtE => some geV
  | .In => some (inV false)
  | .NotIn => some (inV true)
  | _ => none
def cut {α : Type} (xs : List α) (lo hi : Option Int) : List α := (xs.drop (HT.sIx xs.length 0 lo)).take (HT.sIx xs.length xs.length hi - HT.sIx xs.length 0 lo)
def sliceV : Val → Option Int → Option Int → Option RVal
  | .lst vs, lo, hi => some (.fl (cut vs lo hi))
  | .tup vs, lo, hi => some (.fz (.tup (cut vs lo hi)))
  | _, _, _ => none
@[simp] def truV : Val → Option Bool
  | .non => some false
  | .bl b => some b
  | .int i => some (i != 0)
  | .str x => if x.length ≤ cap then some ((x.length : Int) != 0) else none
  | .tup vs | .lst vs => some (!vs.isEmpty)
  | _ => none
@[simp] def boolsOf : List Val → Option (List Bool)
  | [] => some []
  | .bl b :: r => (boolsOf r).map (b :: ·)
  | _ => none
@[simp] def lenV : List Val → Option RVal
  | [.lst vs] | [.tup vs] => some (.fz (.int vs.length))
  | [.str x] => if x.length ≤ cap then some (.fz (.int x.length)) else none
  | [.dic kvs] => some (.fz (.int kvs.length))
  | _ => none
@[simp] def intV : List Val → Option RVal
  | [.int i] => some (.fz (.int i))
  | [.bl b] => some (.fz (.int (b2i b)))
  | _ => none
@[simp] def listV : List Val → Option RVal
  | [.lst vs] | [.tup vs] => some (.fl vs)
  | _ => none
@[simp] def tupleV : List Val → Option RVal
  | [.lst vs] | [.tup vs] => some (.fz (.tup vs))
  | _ => none
@[simp] def dictV : List Val → Option RVal
  | [.dic kvs] => some (.fd kvs)
  | _ => none
@[simp] def allV : List Val → Option RVal
  | [.lst vs] => (boolsOf vs).bind fun bs => rbl (bs.all id)
  | _ => none
@[simp] def anyV : List Val → Option RVal
  | [.lst vs] => (boolsOf vs).bind fun bs => rbl (bs.any id)
  | _ => none
/-- the built-in functions by name -/
def biV (x : Str) : Option (List Val → Option RVal) :=
  if x = "len" then some lenV else if x = "int" then some intV else if x = "list" then some listV else if x = "tuple" then some tupleV
  else if x = "dict" then some dictV else if x = "all" then some allV else if x = "any" then some anyV else none

def frz : RVal → Val := RVal.val
/-- an object that is shared, read -/
def view (S : Mem) : Val → Val
  | .loc n => match S[n]? with
    | some (.lst vs) => .lst vs
    | some (.dic kvs) => .dic kvs
    | _ => .loc n
  | v => v
def slotV : Slot → Option Val
  | .unb => none
  | .pv v => some v
  | .ol vs => some (.lst vs)
  | .od kvs => some (.dic kvs)
/-- a name is read, and may be kept: its list is a value from now on -/
@[simp] def readE (i : Nat) : M Val := fun ρ S => match (ρ[i]?).bind slotV with
  | some v => .ok v (ρ.set i (.pv v)) S
  | none => .bad
/-- a name is looked at -/
@[simp] def readB (i : Nat) : M Val := fun ρ S => match (ρ[i]?).bind slotV with
  | some v => .ok v ρ S
  | none => .bad
@[simp] def setS (i : Nat) (s : Slot) : M Unit := fun ρ S => if i < ρ.length then .ok () (ρ.set i s) S else .bad
def RVal.slot : RVal → Slot
  | .fz v => .pv v
  | .fl vs => .ol vs
  | .fd kvs => .od kvs
/-- an operand: a name that is looked at when the others have come, or an expression -/
inductive Opd where
  | sl (i : Nat) | ex (f : Caller → M Val)
def Opd.pre (c : Caller) : Opd → M (Option Val)
  | .sl i => bnd (readB i) fun _ => ret none
  | .ex f => bnd (f c) fun v => ret (some v)
@[simp] def Opd.post : Opd → Option Val → Env → Mem → Option Val
  | .sl i, _, ρ, S => ((ρ[i]?).bind slotV).map (view S)
  | .ex _, some v, _, S => some (view S v)
  | .ex _, none, _, _ => none
def pres (c : Caller) : List Opd → M (List (Option Val))
  | [] => ret []
  | o :: r => bnd (o.pre c) fun v => bnd (pres c r) fun vs => ret (v :: vs)
@[simp] def posts : List Opd → List (Option Val) → Env → Mem → Option (List Val)
  | [], [], _, _ => some []
  | o :: r, v :: vs, ρ, S => (o.post v ρ S).bind fun x => (posts r vs ρ S).map (x :: ·)
  | _, _, _, _ => none
def optAt {α : Type} (o : Option α) (ρ : Env) (S : Mem) : Out α := match o with
  | some r => .ok r ρ S
  | none => .bad
/-- an operation on operands -/
def app {α : Type} (os : List Opd) (p : List Val → Option α) (c : Caller) : M α := bnd (pres c os) fun vs ρ S => optAt ((posts os vs ρ S).bind p) ρ S
def two (p : Val → Val → Option RVal) : List Val → Option RVal
  | [a, b] => p a b
  | _ => none
def valM (m : M RVal) : M Val := bnd m fun r => ret (frz r)
/-- arguments, from the left -/
def argsM (c : Caller) : List (Caller → M RVal) → M (List Val)
  | [] => ret []
  | f :: r => bnd (f c) fun v => bnd (argsM c r) fun vs => ret (frz v :: vs)
@[simp] def callM (c : Caller) (f np : Nat) (vs : List Val) : M RVal := fun ρ S => if vs.length = np then (match c f vs S with
  | .ok r S => .ok r ρ S
  | .exc k fs S => .exc k fs ρ S
  | .bad => .bad) else .bad

/-- the items of what is walked -/
@[simp] def itemsV : Val → Option (List Val)
  | .lst vs | .tup vs => some vs
  | _ => none
def rangeL (lo : Int) (n : Nat) : List Val := (List.range n).map fun (i : Nat) => .int (lo + i)
def small62 (i : Int) : Bool := decide (-(2 ^ 62) ≤ i) && decide (i < 2 ^ 62)
@[simp] def rangeV : List Val → Option (List Val)
  | [.int n] => if small62 n ∧ n.toNat ≤ cap then some (rangeL 0 n.toNat) else none
  | [.int a, .int b] => if small62 a ∧ small62 b ∧ (b - a).toNat ≤ cap then some (rangeL a (b - a).toNat) else none
  | _ => none
inductive Tgt where
  | nm (i : Nat) | tp (ts : List Tgt)
mutual
def tgtIx : Tgt → List Nat
  | .nm i => [i]
  | .tp ts => tgtIxs ts
def tgtIxs : List Tgt → List Nat
  | [] => []
  | t :: r => tgtIx t ++ tgtIxs r
end
mutual
def asg : Tgt → RVal → M Unit
  | .nm i, r => setS i r.slot
  | .tp ts, .fz (.tup vs) => if ts.length = vs.length then asgs ts vs else fail
  | _, _ => fail
def asgs : List Tgt → List Val → M Unit
  | [], [] => ret ()
  | t :: ts, v :: vs => bnd (asg t (.fz v)) fun _ => asgs ts vs
  | _, _ => fail
end
/-- the block's own slots are forgotten -/
@[simp] def hideE : List Nat → Env → Env
  | [], ρ => ρ
  | i :: r, ρ => (hideE r ρ).set i .unb
def hideM (own : List Nat) : M Unit := fun ρ S => .ok () (hideE own ρ) S
/-- a comprehension's turns -/
def compL (own : List Nat) (g : Val → M Unit) (t : M Bool) (e : M Val) : List Val → M (List Val)
  | [] => bnd (hideM own) fun _ => ret []
  | x :: r => bnd (hideM own) fun _ => bnd (g x) fun _ => bnd t fun b => if b then bnd e fun v => bnd (compL own g t e r) fun vs => ret (v :: vs) else compL own g t e r
/-- none of them owns a list -/
@[simp] def slotFree : Option Slot → Bool
  | some (.ol _) | some (.od _) => false
  | _ => true
@[simp] def canHide (own : List Nat) (ρ : Env) : Bool := own.all fun i => slotFree ρ[i]?
@[simp] def back (ρ0 : Env) : List Nat → Env → Env
  | [], ρ => ρ
  | i :: r, ρ => (back ρ0 r ρ).set i (ρ0[i]?.getD .unb)
def inBlock {α : Type} (own : List Nat) (m : M α) : M α := fun ρ S => if canHide own ρ then (match m ρ S with
    | .ok a ρ2 S2 => .ok a (back ρ own ρ2) S2
    | _ => .bad) else .bad
/-- a for's turns -/
def forL (g : Val → M Unit) (b : M Flow) : List Val → M Flow
  | [] => ret .nx
  | x :: r => bnd (g x) fun _ => bnd b fun f => match f with
    | .nx | .ct => forL g b r
    | .bk => ret .nx
    | .rt v => ret (.rt v)
def whileL (t : M Bool) (b : M Flow) : Nat → M Flow
  | 0 => fail
  | n + 1 => bnd t fun x => if x then bnd b fun f => match f with
      | .nx | .ct => whileL t b n
      | .bk => ret .nx
      | .rt v => ret (.rt v)
    else ret .nx
def seqM (a b : M Flow) : M Flow := bnd a fun f => match f with
  | .nx => b
  | f => ret f

inductive GV where
  | fn (i np : Nat) (dfl : List Val) | cst (v : Val)
structure Ctx where
  N : List Str
  sc : Scope
  gl : List (Str × GV)
  locs : List (Nat × Nat)
  /-- the cells that are the frame's own (none: all) -/
  cells : Option (List Str) := none
def okName (x : Str) : Bool := !(x == ("__debug__" : Str)) && !(x == ("__classdict__" : Str)) && decide (x ≠ ("__name__" : Str))
def Ctx.slot (C : Ctx) (x : Str) : Option Nat := match C.sc.names.lookup x with
  | some .local | some .cell | some .free => if okName x then C.N.findIdx? fun y => decide (y = x) else none
  | _ => none
def ownCell : Option (List Str) → Str → Bool
  | none, _ => true
  | some l, x => l.any fun y => decide (y = x)
/-- a name that may be stored -/
def Ctx.own (C : Ctx) (x : Str) : Option Nat := match C.sc.names.lookup x with
  | some .local => C.N.findIdx? fun y => decide (y = x)
  | some .cell => if ownCell C.cells x then C.N.findIdx? fun y => decide (y = x) else none
  | _ => none
def Ctx.isGl (C : Ctx) (x : Str) : Bool := decide (C.sc.names.lookup x = some .globalImplicit) && okName x
def Ctx.blt (C : Ctx) (x : Str) : Bool := C.isGl x && (C.gl.lookup x).isNone
def constV : Const → Option Val
  | .none => some .non
  | .bool b => some (.bl b)
  | .int i => some (.int i)
  | .str x => some (.str x)
  | _ => none
def isNonC : PySem.Expr → Bool
  | .Constant .none _ _ => true
  | _ => false
def isStar : PySem.Expr → Bool
  | .Starred _ _ => true
  | _ => false
@[simp] def isNonV (neg : Bool) : List Val → Option RVal
  | [.non] => rbl (!neg)
  | [_] => rbl neg
  | _ => none
@[simp] def negV : List Val → Option RVal
  | [.int i] => some (.fz (.int (-i)))
  | _ => none
def revV : List Val → Option RVal
  | [.lst vs] => some (.fl vs.reverse)
  | _ => none
def partO : Option (Opd) → List Opd
  | none => []
  | some o => [o]
def isM1 : PySem.Expr → Bool
  | .UnaryOp .USub (.Constant (.int i) _ _) _ => decide (i = 1)
  | _ => false
def boolM (op : BoolOp) (c : Caller) : List (Caller → M RVal) → M RVal
  | [] => fail
  | [f] => f c
  | f :: r => bnd (valM (f c)) fun v => fun ρ S => match truV (view S v) with
    | none => .bad
    | some b => if b == (op == .Or) then .ok (.fz v) ρ S else boolM op c r ρ S
def truM (f : Caller → M RVal) (c : Caller) : M Bool := bnd (valM (f c)) fun v ρ S => match truV (view S v) with
  | none => .bad
  | some b => .ok b ρ S
def andT (op : BoolOp) (c : Caller) : List (Caller → M Bool) → M Bool
  | [] => fail
  | [f] => f c
  | f :: r => bnd (f c) fun b => if b == (op == .Or) then ret b else andT op c r
def sliceA (lo hi : Bool) : List Val → Option RVal
  | v :: r => match lo, hi, r with
    | false, false, [] => sliceV v none none
    | true, false, [.int i] => sliceV v (some i) none
    | false, true, [.int i] => sliceV v none (some i)
    | _, _, _ => none
  | [] => none
def intM (f : Caller → M RVal) (c : Caller) : M Int := bnd (valM (f c)) fun v => match v with
  | .int i => ret i
  | _ => fail
def sl11 (o : Opd) (fl fh : Caller → M RVal) (c : Caller) : M RVal := bnd (o.pre c) fun v => bnd (intM fl c) fun i => bnd (intM fh c) fun j => fun ρ S => optAt ((o.post v ρ S).bind fun w => sliceV w (some i) (some j)) ρ S
def dispM (c : Caller) : List ((Caller → M RVal) × (Caller → M RVal)) → List (Val × Val) → M (List (Val × Val))
  | [], acc => ret acc
  | (fk, fv) :: r, acc => bnd (valM (fk c)) fun k => bnd (valM (fv c)) fun v => if leaf k then dispM c r (acc ++ [(k, v)]) else fail
def ownOf (N : List Str) (scope : Scope) : List (Str × Nat) := scope.names.filterMap fun p => match p.2 with
  | .local | .cell => (N.findIdx? fun y => decide (y = p.1)).map fun i => (p.1, i)
  | _ => none
def Ctx.blk (C : Ctx) (scope : Scope) : Ctx := { C with sc := L2.relS scope C.sc, cells := some ((scope.names.filter fun p => decide (p.2 = .cell)).map (·.1)) }
def memAt (n : Nat) (m : MObj) : M Unit := fun ρ S => .ok () ρ (S.set n m)
/-- a new shared object -/
def newLoc (r : RVal) : M RVal := match r with
  | .fl vs => fun ρ S => .ok (.fz (.loc S.length)) ρ (S ++ [.lst vs])
  | .fd kvs => fun ρ S => .ok (.fz (.loc S.length)) ρ (S ++ [.dic kvs])
  | .fz _ => fail
def setAtM (o i v : Val) : M Unit := fun ρ S => match o, i with
  | .loc n, .int k => match S[n]? with
    | some (.lst vs) => match L2.ixN vs.length k with
      | some j => .ok () ρ (S.set n (.lst (vs.set j v)))
      | none => .bad
    | _ => .bad
  | _, _ => .bad
def getAtM (o i : Val) : M Val := fun ρ S => match o, i with
  | .loc n, .int k => match S[n]? with
    | some (.lst vs) => match L2.atI vs k with
      | some v => .ok v ρ S
      | none => .bad
    | _ => .bad
  | _, _ => .bad
def compM (fi : Caller → M (List Val)) (own : List Nat) (g : Tgt) (ft : Caller → M Bool) (fe : Caller → M RVal) (c : Caller) : M RVal :=
  bnd (fi c) fun xs => bnd (inBlock own (compL own (fun x => asg g (.fz x)) (ft c) (valM (fe c)) xs)) fun vs => ret (.fl vs)
def addI : Val → Val → Option Val
  | .int i, .int j => some (.int (i + j))
  | _, _ => none
mutual
def denE : Nat → Ctx → PySem.Expr → Option (Caller → M RVal)
  | 0, _, _ => none
  | n + 1, C, e => match e with
    | .Name x _ => match C.slot x with
      | some i => some fun _ => bnd (readE i) fun v => ret (.fz v)
      | none => if C.isGl x then (match C.gl.lookup x with
          | some (.cst v) => some fun _ => ret (.fz v)
          | some (.fn i _ _) => some fun _ => ret (.fz (.fn i))
          | none => none) else none
    | .Constant k _ _ => (constV k).map fun v _ => ret (.fz v)
    | .Tuple es _ _ => (denEs n C es).map fun fs c => bnd (argsM c fs) fun vs => if vs.length ≤ cap then ret (.fz (.tup vs)) else fail
    | .List es _ => (denEs n C es).map fun fs c => bnd (argsM c fs) fun vs => if vs.length ≤ cap then ret (.fl vs) else fail
    | .Dict ks vs _ => if ks.length ≤ 15 && ks.length == vs.length then
        (denKs n C ks).bind fun fk => (denEs n C vs).map fun fv c => bnd (dispM c (fk.zip fv) []) fun kvs => ret (.fd (merge [] kvs)) else none
    | .BinOp a o b _ => (binV o).bind fun p => (denOs n C [a, b]).map fun os => app os (two p)
    | .UnaryOp .Not a _ => (denE n C a).map fun f c => bnd (truM f c) fun b => ret (.fz (.bl (!b)))
    | .UnaryOp .USub a _ => (denOs n C [a]).map fun os => app os negV
    | .Compare a [.Is] [b] _ => if isNonC b then (denOs n C [a]).map fun os => app os (isNonV false) else none
    | .Compare a [.IsNot] [b] _ => if isNonC b then (denOs n C [a]).map fun os => app os (isNonV true) else none
    | .Compare a [op] [b] _ => (cmpV op).bind fun p => (denOs n C [a, b]).map fun os => app os (two p)
    | .BoolOp op vs _ => (denEs n C vs).map fun fs c => boolM op c fs
    | .IfExp t a b _ => (denT n C t).bind fun ft => (denE n C a).bind fun fa => (denE n C b).map fun fb c => bnd (ft c) fun x => if x then fa c else fb c
    | .Subscript v (.Slice none none (some k) _) _ => if isM1 k then (denOs n C [v]).map fun os => app os revV else none
    | .Subscript v (.Slice none none none _) _ => (denOs n C [v]).map fun os => app os (sliceA false false)
    | .Subscript v (.Slice (some lo) none none _) _ => (denOs n C [v, lo]).map fun os => app os (sliceA true false)
    | .Subscript v (.Slice none (some hi) none _) _ => (denOs n C [v, hi]).map fun os => app os (sliceA false true)
    | .Subscript v (.Slice (some lo) (some hi) none _) _ => (denO n C v).bind fun o => (denE n C lo).bind fun fl => (denE n C hi).map fun fh => sl11 o fl fh
    | .Subscript v i _ => (denOs n C [v, i]).map fun os => app os (two getV)
    | .Call (.Name f _) args [] _ => if (C.slot f).isSome then none else if C.isGl f then (match C.gl.lookup f with
        | some (.fn i np dfl) => (denEs n C args).map fun fs c => bnd (argsM c fs) fun vs => callM c i np (vs ++ dfl)
        | some (.cst _) => none
        | none => (biV f).bind fun p => (denOs n C args).map fun os => app os p) else none
    | .ListComp elt [⟨t, it, ifs, 0⟩] scope _ =>
      let own := ownOf C.N scope
      if L2.blkC C.N C.sc scope own then
        (denI n C it).bind fun fi => (denG n (C.blk scope) t).bind fun g => (denTs n (C.blk scope) ifs).bind fun ft => (denE n (C.blk scope) elt).bind fun fe =>
          if (tgtIx g).all (fun i => (own.map (·.2)).contains i) then some (compM fi (own.map (·.2)) g ft fe) else none
      else none
    | _ => none
def denEs : Nat → Ctx → List PySem.Expr → Option (List (Caller → M RVal))
  | 0, _, _ => none
  | _ + 1, _, [] => some []
  | n + 1, C, e :: es => (denE n C e).bind fun f => (denEs n C es).map fun fs => f :: fs
def denKs : Nat → Ctx → List (Option PySem.Expr) → Option (List (Caller → M RVal))
  | 0, _, _ => none
  | _ + 1, _, [] => some []
  | _ + 1, _, none :: _ => none
  | n + 1, C, some e :: es => (denE n C e).bind fun f => (denKs n C es).map fun fs => f :: fs
/-- an operand -/
def denO : Nat → Ctx → PySem.Expr → Option Opd
  | 0, _, _ => none
  | n + 1, C, e => match e with
    | .Name x _ => match C.slot x with
      | some i => some (.sl i)
      | none => (denE n C e).map fun f => .ex fun c => valM (f c)
    | _ => (denE n C e).map fun f => .ex fun c => valM (f c)
def denOs : Nat → Ctx → List PySem.Expr → Option (List Opd)
  | 0, _, _ => none
  | _ + 1, _, [] => some []
  | n + 1, C, e :: es => (denO n C e).bind fun f => (denOs n C es).map fun fs => f :: fs
/-- a test -/
def denT : Nat → Ctx → PySem.Expr → Option (Caller → M Bool)
  | 0, _, _ => none
  | n + 1, C, e => match e with
    | .BoolOp op vs _ => (denTl n C vs).map fun fs c => andT op c fs
    | .UnaryOp .Not a _ => (denT n C a).map fun t c => bnd (t c) fun b => ret (!b)
    | .IfExp _ _ _ _ => none
    | .Compare a [.Is] [b] _ => if isNonC b then (denOs n C [a]).map fun os => truM (app os (isNonV false)) else none
    | .Compare a [.IsNot] [b] _ => if isNonC b then (denOs n C [a]).map fun os => truM (app os (isNonV true)) else none
    | .Compare a [op] [b] _ => (cmpV op).bind fun p => (denOs n C [a, b]).map fun os => truM (app os (two p))
    | .Compare _ _ _ _ => none
    | _ => (denE n C e).map fun f => truM f
def denTl : Nat → Ctx → List PySem.Expr → Option (List (Caller → M Bool))
  | 0, _, _ => none
  | _ + 1, _, [] => some []
  | n + 1, C, e :: es => (denT n C e).bind fun f => (denTl n C es).map fun fs => f :: fs
/-- a comprehension's tests: none, or one -/
def denTs : Nat → Ctx → List PySem.Expr → Option (Caller → M Bool)
  | 0, _, _ => none
  | _ + 1, _, [] => some fun _ => ret true
  | n + 1, C, [e] => denT n C e
  | _, _, _ => none
/-- a target -/
def denG : Nat → Ctx → PySem.Expr → Option Tgt
  | 0, _, _ => none
  | n + 1, C, e => match e with
    | .Name x _ => (C.own x).map .nm
    | .Tuple es _ _ => (denGs n C es).map .tp
    | _ => none
def denGs : Nat → Ctx → List PySem.Expr → Option (List Tgt)
  | 0, _, _ => none
  | _ + 1, _, [] => some []
  | n + 1, C, e :: es => (denG n C e).bind fun f => (denGs n C es).map fun fs => f :: fs
/-- what is walked -/
def denI : Nat → Ctx → PySem.Expr → Option (Caller → M (List Val))
  | 0, _, _ => none
  | n + 1, C, e => match e with
    | .Call (.Name f p) args [] q => if C.blt f && decide (f = "range") then
        if args.length ≤ 2 then (denOs n C args).map fun os => app os rangeV else none
      else (denE n C (.Call (.Name f p) args [] q)).map fun g c => bnd (valM (g c)) fun v => opt (itemsV v)
    | e => (denE n C e).map fun g c => bnd (valM (g c)) fun v => opt (itemsV v)
end
def fuelW : Nat := 1048576
def nextM (m : M Unit) : M Flow := bnd m fun _ => ret .nx
def retSlot (i : Nat) : M Flow := fun ρ S => match ρ[i]? with
  | some (.pv v) => .ok (.rt (.fz v)) ρ S
  | some (.ol vs) => .ok (.rt (.fl vs)) (ρ.set i .unb) S
  | some (.od kvs) => .ok (.rt (.fd kvs)) (ρ.set i .unb) S
  | _ => .bad
/-- what is stored under a name -/
def setNm (i : Nat) (shared : Bool) (v : RVal) : M Flow := if shared then bnd (newLoc v) fun w => nextM (setS i w.slot) else nextM (setS i v.slot)
def isComp : PySem.Expr → Bool
  | .ListComp _ _ _ _ | .SetComp _ _ _ _ | .DictComp _ _ _ _ _ => true
  | _ => false
def isTup : PySem.Expr → Bool
  | .Tuple _ _ _ => true
  | _ => false
def notSlice : PySem.Expr → Bool
  | .Slice _ _ _ _ => false
  | _ => true
def store2 (i j : Nat) : List Val → M Flow
  | [v, w] => bnd (setS i (.pv v)) fun _ => bnd (setS j (.pv w)) fun _ => ret .nx
  | _ => fail
/-- a, b = c, d with two local names: the stores are made from the right -/
def par2 (C : Ctx) (x : Str) (px : Pos) (y : Str) (py : Pos) (a b : PySem.Expr) : Bool :=
  decide (C.sc.names.lookup x = some .local) && decide (C.sc.names.lookup y = some .local) && (py.line == px.line) && decide (x ≠ y) && !isStar a && !isStar b &&
    !(foldedForSure 8 a && foldedForSure 8 b) && !(constantsAlone 8 a && constantsAlone 8 b)
mutual
def denS : Nat → Ctx → Stmt → Option (Caller → M Flow)
  | 0, _, _ => none
  | n + 1, C, s => match s with
    | .Pass _ => some fun _ => ret .nx
    | .Break _ => some fun _ => ret .bk
    | .Continue _ => some fun _ => ret .ct
    | .Return none _ => some fun _ => ret (.rt (.fz .non))
    | .Return (some e) _ => match e with
      | .Name x _ => match C.slot x with
        | some i => some fun _ => retSlot i
        | none => (denE n C e).map fun f c => bnd (f c) fun v => ret (.rt v)
      | _ => (denE n C e).map fun f c => bnd (f c) fun v => ret (.rt v)
    | .Expr (.Constant (.str _) _ _) _ => some fun _ => ret .nx
    | .Assign [.Name x _] e p => (C.own x).bind fun i => (denE n C e).map fun f c => bnd (f c) fun v => setNm i (C.locs.contains (p.line, p.col)) v
    | .Assign [.Tuple [.Name x px, .Name y py] _ _] (.Tuple [a, b] _ _) _ => if par2 C x px y py a b then
        (C.own x).bind fun i => (C.own y).bind fun j => (denEs n C [a, b]).map fun fs c => bnd (argsM c fs) fun vs => store2 i j vs else none
    | .Assign [.Tuple ts _ _] e _ => if isTup e || isComp e then none else (denGs n C ts).bind fun gs => (denE n C e).map fun f c => bnd (valM (f c)) fun v => nextM (asg (.tp gs) (.fz v))
    | .AugAssign (.Subscript o i _) .Add e _ => if !notSlice i then none else (denE n C o).bind fun fo => (denE n C i).bind fun fi => (denE n C e).map fun fe c =>
        bnd (valM (fo c)) fun o => bnd (valM (fi c)) fun i => bnd (getAtM o i) fun x => bnd (valM (fe c)) fun y => bnd (opt (addI x y)) fun z => nextM (setAtM o i z)
    | .AugAssign (.Name x _) .Add e _ => (C.own x).bind fun i => (denE n C e).map fun fe c =>
        bnd (readB i) fun x => bnd (valM (fe c)) fun y => bnd (opt (addI x y)) fun z => nextM (setS i (.pv z))
    | .For t it b [] _ => (denI n C it).bind fun fi => (denG n C t).bind fun g => (denSs n C b).map fun fb c =>
        bnd (fi c) fun xs => forL (fun x => asg g (.fz x)) (fb c) xs
    | .While t b [] _ => (denT n C t).bind fun ft => (denSs n C b).map fun fb c => whileL (ft c) (fb c) fuelW
    | .If t b o _ => (denT n C t).bind fun ft => (denSs n C b).bind fun fb => (denSs n C o).map fun fo c => bnd (ft c) fun x => if x then fb c else fo c
    | _ => none
def denSs : Nat → Ctx → List Stmt → Option (Caller → M Flow)
  | 0, _, _ => none
  | _ + 1, _, [] => some fun _ => ret .nx
  | n + 1, C, s :: r => (denS n C s).bind fun f => (denSs n C r).map fun g c => seqM (f c) (g c)
end
/-- a def: its names by slot, its parameters' number, what its body does -/
structure Fn where
  N : List Str
  np : Nat
  body : Caller → M Flow
@[simp] def startE (N : List Str) (vs : List Val) : Env := vs.map .pv ++ List.replicate (N.length - vs.length) .unb
def runFn (F : Fn) (c : Caller) (vs : List Val) (S : Mem) : Res := if vs.length = F.np then (match F.body c (startE F.N vs) S with
  | .ok .nx _ S => .ok (.fz .non) S
  | .ok (.rt r) _ S => .ok r S
  | .exc k fs _ S => .exc k fs S
  | _ => .bad) else .bad
/-- calls to a depth -/
def callN (P : List Fn) : Nat → Caller
  | 0 => fun _ _ _ => .bad
  | d + 1 => fun i vs S => match P[i]? with
    | some F => runFn F (callN P d) vs S
    | none => .bad
end Lk
end

section
set_option Elab.async false
set_option linter.all false
set_option maxRecDepth 100000
set_option maxHeartbeats 1000000
namespace Lk
open PySem
open L2 (V Hp HO upd upd_same upd_ne ne_of ne_of_none Key Rd SqL SqT VK XK WX)

/-- where the text's defs and classes stand -/
structure GA where
  fn : Nat → Addr
  cls : Nat → Addr
  atr : Nat → Str
def Le (F H : Hp) : Prop := ∀ a o, F a = some o → H a = some o
def Pre (μ μ' : List Addr) : Prop := ∀ (n : Nat) (a : Addr), μ[n]? = some a → μ'[n]? = some a
theorem Le.refl (F : Hp) : Le F F := fun _ _ h => h
theorem Le.trans {A B C : Hp} (x : Le A B) (y : Le B C) : Le A C := fun a o h => y a o (x a o h)
theorem Pre.refl (μ : List Addr) : Pre μ μ := fun _ _ h => h
theorem Pre.trans {A B C : List Addr} (x : Pre A B) (y : Pre B C) : Pre A C := fun a o h => y a o (x a o h)
theorem Le.upd {F : Hp} {a : Addr} {o : HO} (h : F a = none) : Le F (upd F a o) := fun b u e => by rw [upd_ne (ne_of_none e h)]; exact e
theorem Le.rd {F F' : Hp} (l : Le F F') {a : Addr} {u : HO} (h : Rd F a u) : Rd F' a u := by
  rcases h with h | ⟨o, h⟩
  · exact .inl (l _ _ h)
  · exact .inr ⟨o, l _ _ h⟩
theorem Le.sqL {K : PySem.W.Frag} {F F' : Hp} (l : Le F F') {a : Addr} {xs : List V} (h : SqL K F a xs) : SqL K F' a xs := by
  rcases h with h | h
  · exact .inl (l.rd h)
  · exact .inr h
theorem Le.sqT {K : PySem.W.Frag} {F F' : Hp} (l : Le F F') {a : Addr} {xs : List V} (h : SqT K F a xs) : SqT K F' a xs := by
  rcases h with h | h
  · exact .inl (l.rd h)
  · exact .inr h
theorem Pre.mem {μ μ' : List Addr} (p : Pre μ μ') {a : Addr} (h : a ∈ μ) : a ∈ μ' := by
  obtain ⟨n, e⟩ := List.getElem?_of_mem h
  exact List.mem_of_getElem? (p n a e)

section
variable (K : PySem.W.Frag) (ga : GA)
def keyR : Val → Key → Prop
  | .int i, k => k = .inl i
  | .str x, k => k = .inr x
  | _, _ => False
mutual
/-- the value v, at x -/
def RV (F : Hp) (μ : List Addr) : Val → V → Prop
  | .non, x => x = .non
  | .bl b, x => x = .bl b
  | .int i, x => x = .int i
  | .str z, x => x = .str z
  | .tup vs, x => ∃ a xs, x = .ref a ∧ SqT K F a xs ∧ RVs F μ vs xs
  | .lst vs, x => ∃ a xs, x = .ref a ∧ SqL K F a xs ∧ RVs F μ vs xs
  | .dic kvs, x => ∃ a ks, x = .ref a ∧ Rd F a (.dK ks) ∧ RVd F μ kvs ks
  | .obj _ _, _ => False
  | .loc n, x => ∃ a, x = .ref a ∧ μ[n]? = some a
  | .fn i, x => x = .ref (ga.fn i)
  | .cls i, x => x = .ref (ga.cls i)
  | .ty t, x => x = .ty t
def RVs (F : Hp) (μ : List Addr) : List Val → List V → Prop
  | [], xs => xs = []
  | v :: vs, xs => ∃ y ys, xs = y :: ys ∧ RV F μ v y ∧ RVs F μ vs ys
def RVd (F : Hp) (μ : List Addr) : List (Val × Val) → List (Key × V) → Prop
  | [], xs => xs = []
  | (k, v) :: r, xs => ∃ q y ys, xs = (q, y) :: ys ∧ keyR k q ∧ RV F μ v y ∧ RVd F μ r ys
end
end
section
variable {K : PySem.W.Frag} {ga : GA} {F F' : Hp} {μ μ' : List Addr}
mutual
theorem RV.mono (l : Le F F') (p : Pre μ μ') : ∀ (v : Val) (x : V), RV K ga F μ v x → RV K ga F' μ' v x
  | .non, _, h => by simpa [RV] using h
  | .bl _, _, h => by simpa [RV] using h
  | .int _, _, h => by simpa [RV] using h
  | .str _, _, h => by simpa [RV] using h
  | .tup vs, _, h => by
    simp only [RV] at h ⊢
    obtain ⟨a, xs, e, q, r⟩ := h
    exact ⟨a, xs, e, l.sqT q, RVs.mono l p vs xs r⟩
  | .lst vs, _, h => by
    simp only [RV] at h ⊢
    obtain ⟨a, xs, e, q, r⟩ := h
    exact ⟨a, xs, e, l.sqL q, RVs.mono l p vs xs r⟩
  | .dic kvs, _, h => by
    simp only [RV] at h ⊢
    obtain ⟨a, xs, e, q, r⟩ := h
    exact ⟨a, xs, e, l.rd q, RVd.mono l p kvs xs r⟩
  | .obj _ _, _, h => by simp only [RV] at h
  | .loc n, _, h => by
    simp only [RV] at h ⊢
    obtain ⟨a, e, q⟩ := h
    exact ⟨a, e, p n a q⟩
  | .fn _, _, h => by simpa [RV] using h
  | .cls _, _, h => by simpa [RV] using h
  | .ty _, _, h => by simpa [RV] using h
theorem RVs.mono (l : Le F F') (p : Pre μ μ') : ∀ (vs : List Val) (xs : List V), RVs K ga F μ vs xs → RVs K ga F' μ' vs xs
  | [], _, h => by simpa [RVs] using h
  | v :: vs, _, h => by
    simp only [RVs] at h ⊢
    obtain ⟨y, ys, e, r, t⟩ := h
    exact ⟨y, ys, e, RV.mono l p v y r, RVs.mono l p vs ys t⟩
theorem RVd.mono (l : Le F F') (p : Pre μ μ') : ∀ (vs : List (Val × Val)) (xs : List (Key × V)), RVd K ga F μ vs xs → RVd K ga F' μ' vs xs
  | [], _, h => by simpa [RVd] using h
  | (k, v) :: vs, _, h => by
    simp only [RVd] at h ⊢
    obtain ⟨q, y, ys, e, r, z, t⟩ := h
    exact ⟨q, y, ys, e, r, RV.mono l p v y z, RVd.mono l p vs ys t⟩
end
theorem RVs.length : ∀ {vs : List Val} {xs : List V}, RVs K ga F μ vs xs → xs.length = vs.length
  | [], _, h => by simp only [RVs] at h; rw [h]; rfl
  | _ :: vs, _, h => by
    simp only [RVs] at h
    obtain ⟨y, ys, e, _, t⟩ := h
    rw [e, List.length_cons, List.length_cons, RVs.length t]
theorem RVs.nil : RVs K ga F μ [] [] := by simp [RVs]
theorem RVs.cons {v : Val} {x : V} {vs : List Val} {xs : List V} (h : RV K ga F μ v x) (t : RVs K ga F μ vs xs) : RVs K ga F μ (v :: vs) (x :: xs) := by
  simp only [RVs]
  exact ⟨x, xs, rfl, h, t⟩
theorem RVs.cons_inv {v : Val} {vs : List Val} {xs : List V} (h : RVs K ga F μ (v :: vs) xs) : ∃ y ys, xs = y :: ys ∧ RV K ga F μ v y ∧ RVs K ga F μ vs ys := by simpa only [RVs] using h
theorem RVs.append : ∀ {vs ws : List Val} {xs ys : List V}, RVs K ga F μ vs xs → RVs K ga F μ ws ys → RVs K ga F μ (vs ++ ws) (xs ++ ys)
  | [], _, _, _, h, t => by
    simp only [RVs] at h
    rw [h]
    exact t
  | _ :: _, _, _, _, h, t => by
    obtain ⟨y, ys, e, r, q⟩ := h.cons_inv
    rw [e]
    exact RVs.cons r (RVs.append q t)
theorem RVs.get : ∀ {vs : List Val} {xs : List V} {i : Nat} {v : Val}, RVs K ga F μ vs xs → vs[i]? = some v → ∃ x, xs[i]? = some x ∧ RV K ga F μ v x
  | [], _, _, _, _, e => by simp at e
  | w :: vs, _, 0, v, h, e => by
    obtain ⟨y, ys, e2, r, _⟩ := h.cons_inv
    have e3 : w = v := by simpa using e
    subst e3 e2
    exact ⟨y, rfl, r⟩
  | _ :: vs, _, i + 1, v, h, e => by
    obtain ⟨y, ys, e2, _, q⟩ := h.cons_inv
    subst e2
    obtain ⟨x, h1, h2⟩ := RVs.get (i := i) q (by simpa using e)
    exact ⟨x, by simpa using h1, h2⟩
theorem RVs.take : ∀ {vs : List Val} {xs : List V} (n : Nat), RVs K ga F μ vs xs → RVs K ga F μ (vs.take n) (xs.take n)
  | _, _, 0, _ => by simpa using RVs.nil
  | [], _, n + 1, h => by
    simp only [RVs] at h
    rw [h]
    simpa using RVs.nil
  | _ :: _, _, n + 1, h => by
    obtain ⟨y, ys, e, r, q⟩ := h.cons_inv
    rw [e]
    exact RVs.cons r (RVs.take n q)
theorem RVs.drop : ∀ {vs : List Val} {xs : List V} (n : Nat), RVs K ga F μ vs xs → RVs K ga F μ (vs.drop n) (xs.drop n)
  | _, _, 0, h => h
  | [], _, n + 1, h => by
    simp only [RVs] at h
    rw [h]
    simpa using RVs.nil
  | _ :: _, _, n + 1, h => by
    obtain ⟨y, ys, e, _, q⟩ := h.cons_inv
    rw [e]
    exact RVs.drop n q
theorem RVs.reverse : ∀ {vs : List Val} {xs : List V}, RVs K ga F μ vs xs → RVs K ga F μ vs.reverse xs.reverse
  | [], _, h => by
    simp only [RVs] at h
    rw [h]
    exact RVs.nil
  | _ :: _, _, h => by
    obtain ⟨y, ys, e, r, q⟩ := h.cons_inv
    rw [e, List.reverse_cons, List.reverse_cons]
    exact RVs.append (RVs.reverse q) (RVs.cons r RVs.nil)
theorem RVs.set {v : Val} {x : V} (r : RV K ga F μ v x) : ∀ {vs : List Val} {xs : List V} (n : Nat), RVs K ga F μ vs xs → RVs K ga F μ (vs.set n v) (xs.set n x)
  | [], _, n, h => by
    simp only [RVs] at h
    rw [h]
    simpa using RVs.nil
  | _ :: _, _, 0, h => by
    obtain ⟨y, ys, e, _, q⟩ := h.cons_inv
    rw [e]
    exact RVs.cons r q
  | _ :: _, _, n + 1, h => by
    obtain ⟨y, ys, e, r', q⟩ := h.cons_inv
    rw [e]
    exact RVs.cons r' (RVs.set r n q)
theorem RVd.length : ∀ {vs : List (Val × Val)} {xs : List (Key × V)}, RVd K ga F μ vs xs → xs.length = vs.length
  | [], _, h => by simp only [RVd] at h; rw [h]; rfl
  | (_, _) :: vs, _, h => by
    simp only [RVd] at h
    obtain ⟨q, y, ys, e, _, _, t⟩ := h
    rw [e, List.length_cons, List.length_cons, RVd.length t]
end

structure Gh where
  F0 : Hp
  m0 : List Addr
  H0 : Hp
  T : List (Addr × HO)
def Slot.isOwn : Slot → Bool
  | .ol _ | .od _ => true
  | _ => false
def OwnAt (ρ : Env) (σ : L2.St) (i : Nat) (a : Addr) : Prop := (∃ s, ρ[i]? = some s ∧ s.isOwn = true) ∧ σ[i]? = some (some (.ref a))
section
variable (K : PySem.W.Frag) (ga : GA)
def MObjR (F : Hp) (μ : List Addr) (H : Hp) (m : MObj) (a : Addr) : Prop := F a = none ∧ match m with
  | .lst vs => ∃ xs, H a = some (.lst xs) ∧ RVs K ga F μ vs xs
  | .dic kvs => ∃ ks, H a = some (.dK ks) ∧ RVd K ga F μ kvs ks
  | .ins _ _ => False
/-- an address of the frame's own -/
def Own (g : Gh) (F : Hp) (μ : List Addr) (a : Addr) : Prop := F a = none ∧ a ∉ μ ∧ g.H0 a = none
def SlotR (g : Gh) (F : Hp) (μ : List Addr) (H : Hp) : Slot → Option V → Prop
  | .unb, _ => True
  | .pv v, o => ∃ x, o = some x ∧ RV K ga F μ v x
  | .ol vs, o => ∃ a xs, o = some (.ref a) ∧ Own g F μ a ∧ H a = some (.lst xs) ∧ RVs K ga F μ vs xs
  | .od kvs, o => ∃ a ks, o = some (.ref a) ∧ Own g F μ a ∧ H a = some (.dK ks) ∧ RVd K ga F μ kvs ks
structure Rel0 (F : Hp) (μ : List Addr) (S : Mem) (H : Hp) : Prop where
  sub : Le F H
  mem : Paired (MObjR K ga F μ H) S μ
  nd : μ.Nodup
structure Grow (F : Hp) (μ : List Addr) (H F' : Hp) (μ' : List Addr) (H' : Hp) : Prop where
  le : Le F F'
  pre : Pre μ μ'
  keep : ∀ a o, H a = some o → a ∉ μ → H' a = some o
  newF : ∀ a, F' a ≠ none → F a ≠ none ∨ H a = none
  newM : ∀ a, a ∈ μ' → a ∈ μ ∨ H a = none
structure Rel (g : Gh) (F : Hp) (μ : List Addr) (ρ : Env) (S : Mem) (σ : L2.St) (H : Hp) : Prop where
  r0 : Rel0 K ga F μ S H
  gr : Grow g.F0 g.m0 g.H0 F μ H
  env : Paired (SlotR K ga g F μ H) ρ σ
  apart : ∀ i j a, OwnAt ρ σ i a → OwnAt ρ σ j a → i = j
  tmp : ∀ p ∈ g.T, H p.1 = some p.2 ∧ Own g F μ p.1 ∧ ∀ i, ¬ OwnAt ρ σ i p.1
def Free (g : Gh) (F : Hp) (μ : List Addr) (ρ : Env) (σ : L2.St) (a : Addr) : Prop := Own g F μ a ∧ (∀ i, ¬ OwnAt ρ σ i a) ∧ ∀ p ∈ g.T, p.1 ≠ a
/-- what an expression has given -/
def RR (g : Gh) (F : Hp) (μ : List Addr) (ρ : Env) (σ : L2.St) (H : Hp) : RVal → V → Prop
  | .fz v, x => RV K ga F μ v x
  | .fl vs, x => ∃ a xs, x = .ref a ∧ H a = some (.lst xs) ∧ RVs K ga F μ vs xs ∧ Free g F μ ρ σ a
  | .fd kvs, x => ∃ a ks, x = .ref a ∧ H a = some (.dK ks) ∧ RVd K ga F μ kvs ks ∧ Free g F μ ρ σ a
/-- what a call has given; H: ahead of the call -/
def RR0 (F : Hp) (μ : List Addr) (H' H : Hp) : RVal → V → Prop
  | .fz v, x => RV K ga F μ v x
  | .fl vs, x => ∃ a xs, x = .ref a ∧ H' a = some (.lst xs) ∧ RVs K ga F μ vs xs ∧ F a = none ∧ a ∉ μ ∧ H a = none
  | .fd kvs, x => ∃ a ks, x = .ref a ∧ H' a = some (.dK ks) ∧ RVd K ga F μ kvs ks ∧ F a = none ∧ a ∉ μ ∧ H a = none
end
end Lk
end

section
set_option Elab.async false
set_option linter.all false
set_option maxRecDepth 100000
set_option maxHeartbeats 1000000
namespace Lk
open PySem
open L2 (V Hp HO upd upd_same upd_ne ne_of ne_of_none Key Rd SqL SqT VK XK WX)

theorem pget {α β : Type} {R : α → β → Prop} : ∀ {xs : List α} {ys : List β} {i : Nat} {a : α}, Paired R xs ys → xs[i]? = some a → ∃ b, ys[i]? = some b ∧ R a b
  | _, _, _, _, .nil, e => by simp at e
  | _, _, 0, _, .cons r _, e => by simp at e; subst e; exact ⟨_, rfl, r⟩
  | _, _, i + 1, a, .cons _ t, e => by
    obtain ⟨u, h1, h2⟩ := pget (i := i) (a := a) t (by simpa using e)
    exact ⟨u, by simpa using h1, h2⟩
theorem pget' {α β : Type} {R : α → β → Prop} : ∀ {xs : List α} {ys : List β} {i : Nat} {b : β}, Paired R xs ys → ys[i]? = some b → ∃ a, xs[i]? = some a ∧ R a b
  | _, _, _, _, .nil, e => by simp at e
  | _, _, 0, _, .cons r _, e => by simp at e; subst e; exact ⟨_, rfl, r⟩
  | _, _, i + 1, a, .cons _ t, e => by
    obtain ⟨u, h1, h2⟩ := pget' (i := i) (b := a) t (by simpa using e)
    exact ⟨u, by simpa using h1, h2⟩
theorem pset {α β : Type} {R : α → β → Prop} {a : α} {b : β} (r : R a b) : ∀ {xs : List α} {ys : List β} (i : Nat), Paired R xs ys → Paired R (xs.set i a) (ys.set i b)
  | _, _, _, .nil => .nil
  | _, _, 0, .cons _ t => .cons r t
  | _, _, i + 1, .cons q t => .cons q (pset r i t)
/-- one side stored: what stands on the other side fits -/
theorem pset1 {α β : Type} {R : α → β → Prop} {a : α} : ∀ {xs : List α} {ys : List β} (i : Nat), Paired R xs ys → (∀ b, ys[i]? = some b → R a b) → Paired R (xs.set i a) ys
  | _, _, _, .nil, _ => .nil
  | _, _, 0, .cons _ t, r => .cons (r _ rfl) t
  | _, _, i + 1, .cons q t, r => .cons q (pset1 i t fun b e => r b (by simpa using e))
theorem pimp {α β : Type} {R Q : α → β → Prop} : ∀ {xs : List α} {ys : List β}, Paired R xs ys → (∀ a b, a ∈ xs → b ∈ ys → R a b → Q a b) → Paired Q xs ys
  | _, _, .nil, _ => .nil
  | _, _, .cons r t, f => .cons (f _ _ (by simp) (by simp) r) (pimp t fun a b ha hb => f a b (by simp [ha]) (by simp [hb]))
/-- .. by places -/
theorem pimpI {α β : Type} {R Q : α → β → Prop} {xs : List α} {ys : List β} (h : Paired R xs ys) (f : ∀ (i : Nat) a b, xs[i]? = some a → ys[i]? = some b → R a b → Q a b) : Paired Q xs ys := by
  induction h with
  | nil => exact .nil
  | cons r t ih => exact .cons (f 0 _ _ rfl rfl r) (ih fun i a b e1 e2 => f (i + 1) a b (by simpa using e1) (by simpa using e2))
theorem pappend {α β : Type} {R : α → β → Prop} : ∀ {xs : List α} {ys : List β} {as : List α} {bs : List β}, Paired R xs ys → Paired R as bs → Paired R (xs ++ as) (ys ++ bs)
  | _, _, _, _, .nil, s => s
  | _, _, _, _, .cons r t, s => .cons r (pappend t s)
theorem plen {α β : Type} {R : α → β → Prop} : ∀ {xs : List α} {ys : List β}, Paired R xs ys → xs.length = ys.length
  | _, _, .nil => rfl
  | _, _, .cons _ t => by simp [plen t]

section
variable {K : PySem.W.Frag} {ga : GA} {g : Gh} {F F' H H' : Hp} {μ μ' : List Addr} {ρ : Env} {S S' : Mem} {σ : L2.St} {p a : Addr} {o o' : HO}

theorem MObjR.some {m : MObj} (h : MObjR K ga F μ H m a) : ∃ o, H a = some o := by
  obtain ⟨_, h⟩ := h
  cases m with
  | lst vs => obtain ⟨xs, e, _⟩ := h; exact ⟨_, e⟩
  | dic kvs => obtain ⟨xs, e, _⟩ := h; exact ⟨_, e⟩
  | ins c fs => exact h.elim
theorem Rel0.someM (r : Rel0 K ga F μ S H) (h : a ∈ μ) : F a = none ∧ ∃ o, H a = some o := by
  obtain ⟨n, e⟩ := List.getElem?_of_mem h
  obtain ⟨m, _, q⟩ := pget' r.mem e
  exact ⟨q.1, q.some⟩
theorem own_some (h : Paired (SlotR K ga g F μ H) ρ σ) {i : Nat} (q : OwnAt ρ σ i a) : Own g F μ a ∧ ∃ o, H a = some o := by
  obtain ⟨⟨s, e, ho⟩, e2⟩ := q
  obtain ⟨b, e3, r⟩ := pget h e
  rw [e3] at e2
  cases e2
  cases s with
  | unb => cases ho
  | pv v => cases ho
  | ol vs =>
    obtain ⟨b, xs, e4, h1, h2, _⟩ := r
    cases e4
    exact ⟨h1, _, h2⟩
  | od vs =>
    obtain ⟨b, xs, e4, h1, h2, _⟩ := r
    cases e4
    exact ⟨h1, _, h2⟩
theorem Rel.some0 (r : Rel K ga g F μ ρ S σ H) (h : g.H0 a = some o) : ∃ u, H a = some u := by
  by_cases ha : a ∈ g.m0
  · exact (r.r0.someM (r.gr.pre.mem ha)).2
  · exact ⟨_, r.gr.keep a o h ha⟩
theorem Rel.own_new (r : Rel K ga g F μ ρ S σ H) (h : H p = none) : Own g F μ p := by
  refine ⟨?_, fun hm => ?_, ?_⟩
  · cases e : F p with
    | none => rfl
    | some u => rw [r.r0.sub _ _ e] at h; cases h
  · obtain ⟨u, e⟩ := (r.r0.someM hm).2
    rw [e] at h; cases h
  · cases e : g.H0 p with
    | none => rfl
    | some u =>
      obtain ⟨u', e'⟩ := r.some0 e
      rw [e'] at h; cases h
theorem Rel.free_new (r : Rel K ga g F μ ρ S σ H) (h : H p = none) : Free g F μ ρ σ p := by
  refine ⟨r.own_new h, fun i q => ?_, fun q hq e => ?_⟩
  · obtain ⟨_, o, e⟩ := own_some r.env q
    rw [e] at h; cases h
  · subst e
    rw [(r.tmp q hq).1] at h; cases h
/-- an object changes that is no value, no shared one, no slot's, no temporary's -/
theorem Rel.other (r : Rel K ga g F μ ρ S σ H) (h : Free g F μ ρ σ p) : Rel K ga g F μ ρ S σ (upd H p o) := by
  obtain ⟨⟨f1, f2, f3⟩, f4, f5⟩ := h
  have ne : ∀ b u, F b = some u → b ≠ p := fun b u e z => by rw [z, f1] at e; cases e
  refine ⟨⟨fun b u e => by rw [upd_ne (ne b u e)]; exact r.r0.sub b u e, pimp r.r0.mem fun m b _ hb q => ?_, r.r0.nd⟩, ⟨r.gr.le, r.gr.pre, fun b u e n => ?_, fun b e => r.gr.newF b e, r.gr.newM⟩, pimpI r.env fun i s b e1 e2 q => ?_, r.apart, fun q hq => ?_⟩
  · have nb : b ≠ p := fun z => f2 (z ▸ hb)
    obtain ⟨q1, q2⟩ := q
    refine ⟨q1, ?_⟩
    cases m with
    | lst vs => obtain ⟨xs, e, t⟩ := q2; exact ⟨xs, by rw [upd_ne nb]; exact e, t⟩
    | dic vs => obtain ⟨xs, e, t⟩ := q2; exact ⟨xs, by rw [upd_ne nb]; exact e, t⟩
    | ins c fs => exact q2.elim
  · have nb : b ≠ p := fun z => by rw [z, f3] at e; cases e
    rw [upd_ne nb]
    exact r.gr.keep b u e n
  · cases s with
    | unb => trivial
    | pv v => exact q
    | ol vs =>
      obtain ⟨b', xs, e4, h1, h2, h3⟩ := q
      have nb : b' ≠ p := fun z => f4 i ⟨⟨_, e1, rfl⟩, by rw [e2, e4, z]⟩
      exact ⟨b', xs, e4, h1, by rw [upd_ne nb]; exact h2, h3⟩
    | od vs =>
      obtain ⟨b', xs, e4, h1, h2, h3⟩ := q
      have nb : b' ≠ p := fun z => f4 i ⟨⟨_, e1, rfl⟩, by rw [e2, e4, z]⟩
      exact ⟨b', xs, e4, h1, by rw [upd_ne nb]; exact h2, h3⟩
  · obtain ⟨t1, t2, t3⟩ := r.tmp q hq
    exact ⟨by rw [upd_ne (f5 q hq)]; exact t1, t2, t3⟩
theorem Rel.alloc (r : Rel K ga g F μ ρ S σ H) (h : H p = none) : Rel K ga g F μ ρ S σ (upd H p o) := r.other (r.free_new h)
theorem SlotR.imp {s : Slot} {b : Option V} (l : Le F F') (pr : Pre μ μ') (q : SlotR K ga g F μ H s b) (ho : ∀ a o, b = some (.ref a) → s.isOwn = true → H a = some o → H' a = some o ∧ Own g F' μ' a) : SlotR K ga g F' μ' H' s b := by
  cases s with
  | unb => trivial
  | pv v => obtain ⟨x, e, t⟩ := q; exact ⟨x, e, t.mono l pr⟩
  | ol vs =>
    obtain ⟨a, xs, e4, h1, h2, h3⟩ := q
    obtain ⟨k1, k2⟩ := ho a _ e4 rfl h2
    exact ⟨a, xs, e4, k2, k1, h3.mono l pr⟩
  | od vs =>
    obtain ⟨a, xs, e4, h1, h2, h3⟩ := q
    obtain ⟨k1, k2⟩ := ho a _ e4 rfl h2
    exact ⟨a, xs, e4, k2, k1, h3.mono l pr⟩
/-- a free object is a value from now on -/
theorem Rel.frz (r : Rel K ga g F μ ρ S σ H) (h : Free g F μ ρ σ p) (e : H p = some o) : Rel K ga g (upd F p o) μ ρ S σ H := by
  obtain ⟨⟨f1, f2, f3⟩, f4, f5⟩ := h
  have l : Le F (upd F p o) := Le.upd f1
  have nF : ∀ b, b ≠ p → F b = none → upd F p o b = none := fun b n q => by rw [upd_ne n]; exact q
  have own : ∀ b, b ≠ p → Own g F μ b → Own g (upd F p o) μ b := fun b n q => ⟨nF b n q.1, q.2.1, q.2.2⟩
  refine ⟨⟨fun b u q => ?_, pimp r.r0.mem fun m b _ hb q => ?_, r.r0.nd⟩, ⟨r.gr.le.trans l, r.gr.pre, r.gr.keep, fun b q => ?_, r.gr.newM⟩, pimpI r.env fun i s b e1 e2 q => ?_, r.apart, fun q hq => ?_⟩
  · by_cases hb : b = p
    · subst hb; rw [upd_same] at q; cases q; exact e
    · rw [upd_ne hb] at q; exact r.r0.sub b u q
  · have nb : b ≠ p := fun z => f2 (z ▸ hb)
    obtain ⟨q1, q2⟩ := q
    refine ⟨nF b nb q1, ?_⟩
    cases m with
    | lst vs => obtain ⟨xs, e, t⟩ := q2; exact ⟨xs, e, t.mono l (Pre.refl _)⟩
    | dic vs => obtain ⟨xs, e, t⟩ := q2; exact ⟨xs, e, t.mono l (Pre.refl _)⟩
    | ins c fs => exact q2.elim
  · by_cases hb : b = p
    · subst hb; exact .inr f3
    · rw [upd_ne hb] at q; exact r.gr.newF b q
  · refine SlotR.imp l (Pre.refl _) q fun a u ea ho hu => ⟨hu, own a (fun z => ?_) ?_⟩
    · exact f4 i ⟨⟨s, e1, ho⟩, by rw [e2, ea, z]⟩
    · exact (own_some r.env ⟨⟨s, e1, ho⟩, by rw [e2, ea]⟩).1
  · obtain ⟨t1, t2, t3⟩ := r.tmp q hq
    exact ⟨t1, own _ (f5 q hq) t2, t3⟩
/-- what was given is a value -/
theorem Rel.frzR {x : RVal} {v : V} (r : Rel K ga g F μ ρ S σ H) (h : RR K ga g F μ ρ σ H x v) : ∃ F', Le F F' ∧ Rel K ga g F' μ ρ S σ H ∧ RV K ga F' μ x.val v := by
  cases x with
  | fz w => exact ⟨F, Le.refl _, r, h⟩
  | fl vs =>
    obtain ⟨a, xs, e, h1, h2, h3⟩ := h
    have l := Le.upd (o := .lst xs) h3.1.1
    refine ⟨_, l, r.frz h3 h1, ?_⟩
    simp only [RVal.val, RV]
    exact ⟨a, xs, e, .inl (.inl upd_same), h2.mono l (Pre.refl _)⟩
  | fd vs =>
    obtain ⟨a, xs, e, h1, h2, h3⟩ := h
    have l := Le.upd (o := .dK xs) h3.1.1
    refine ⟨_, l, r.frz h3 h1, ?_⟩
    simp only [RVal.val, RV]
    exact ⟨a, xs, e, .inl upd_same, h2.mono l (Pre.refl _)⟩
/-- a temporary -/
theorem Rel.push (r : Rel K ga g F μ ρ S σ H) (h : Free g F μ ρ σ p) (e : H p = some o) : Rel K ga { g with T := (p, o) :: g.T } F μ ρ S σ H :=
  ⟨r.r0, r.gr, pimp r.env fun s b _ _ q => by cases s <;> exact q, r.apart, fun q hq => by
    rcases List.mem_cons.mp hq with z | z
    · subst z; exact ⟨e, h.1, h.2.1⟩
    · exact r.tmp q z⟩
theorem Rel.pop (r : Rel K ga { g with T := (p, o) :: g.T } F μ ρ S σ H) (d : ∀ q ∈ g.T, q.1 ≠ p) : Rel K ga g F μ ρ S σ H ∧ H p = some o ∧ Free g F μ ρ σ p := by
  obtain ⟨t1, t2, t3⟩ := r.tmp (p, o) (by simp)
  exact ⟨⟨r.r0, r.gr, pimp r.env fun s b _ _ q => by cases s <;> exact q, r.apart, fun q hq => r.tmp q (by simp [hq])⟩, t1, t2, t3, d⟩
/-- a slot -/
theorem ownAt_set {s : Slot} {x : Option V} {i j : Nat} (h : OwnAt (ρ.set i s) (σ.set i x) j a) : (i = j ∧ s.isOwn = true ∧ x = some (.ref a)) ∨ (i ≠ j ∧ OwnAt ρ σ j a) := by
  obtain ⟨⟨t, e, ho⟩, e2⟩ := h
  by_cases hij : i = j
  · subst hij
    rw [List.getElem?_set] at e e2
    simp only [if_true] at e e2
    split at e
    · cases e
      split at e2
      · cases e2
        exact .inl ⟨rfl, ho, rfl⟩
      · cases e2
    · cases e
  · rw [List.getElem?_set_ne hij] at e e2
    exact .inr ⟨hij, ⟨t, e, ho⟩, e2⟩
theorem Rel.setSlot {s : Slot} {x : Option V} (r : Rel K ga g F μ ρ S σ H) (i : Nat) (h : SlotR K ga g F μ H s x) (ho : ∀ a, s.isOwn = true → x = some (.ref a) → (∀ j, ¬ OwnAt ρ σ j a) ∧ ∀ p ∈ g.T, p.1 ≠ a) :
    Rel K ga g F μ (ρ.set i s) S (σ.set i x) H := by
  refine ⟨r.r0, r.gr, pset h i r.env, fun j k a q1 q2 => ?_, fun q hq => ?_⟩
  · rcases ownAt_set q1 with ⟨e, o1, x1⟩ | ⟨n1, q1⟩
    · rcases ownAt_set q2 with ⟨e', _, _⟩ | ⟨_, q2⟩
      · exact e.symm.trans e'
      · exact absurd q2 ((ho a o1 x1).1 k)
    · rcases ownAt_set q2 with ⟨e', o2, x2⟩ | ⟨_, q2⟩
      · exact absurd q1 ((ho a o2 x2).1 j)
      · exact r.apart j k a q1 q2
  · obtain ⟨t1, t2, t3⟩ := r.tmp q hq
    refine ⟨t1, t2, fun j q' => ?_⟩
    rcases ownAt_set q' with ⟨_, o1, x1⟩ | ⟨_, q'⟩
    · exact (ho _ o1 x1).2 q hq rfl
    · exact t3 j q'
/-- what was given is stored -/
theorem Rel.setR {y : RVal} {v : V} (r : Rel K ga g F μ ρ S σ H) (i : Nat) (h : RR K ga g F μ ρ σ H y v) : Rel K ga g F μ (ρ.set i y.slot) S (σ.set i (some v)) H := by
  cases y with
  | fz w => exact r.setSlot i ⟨v, rfl, h⟩ fun a z => by cases z
  | fl vs =>
    obtain ⟨a, xs, e, h1, h2, h3⟩ := h
    subst e
    refine r.setSlot i ⟨a, xs, rfl, h3.1, h1, h2⟩ fun b _ z => ?_
    cases z
    exact ⟨h3.2.1, h3.2.2⟩
  | fd vs =>
    obtain ⟨a, xs, e, h1, h2, h3⟩ := h
    subst e
    refine r.setSlot i ⟨a, xs, rfl, h3.1, h1, h2⟩ fun b _ z => ?_
    cases z
    exact ⟨h3.2.1, h3.2.2⟩
theorem ownAt_set1 {s : Slot} {i j : Nat} (h : OwnAt (ρ.set i s) σ j a) : (i = j ∧ s.isOwn = true) ∨ OwnAt ρ σ j a := by
  obtain ⟨⟨t, e, ho⟩, e2⟩ := h
  by_cases hij : i = j
  · subst hij
    rw [List.getElem?_set] at e
    simp only [if_true] at e
    split at e
    · cases e; exact .inl ⟨rfl, ho⟩
    · cases e
  · rw [List.getElem?_set_ne hij] at e
    exact .inr ⟨⟨t, e, ho⟩, e2⟩
/-- less is told of a slot -/
theorem Rel.setGhost {s : Slot} (r : Rel K ga g F μ ρ S σ H) (i : Nat) (hs : s.isOwn = false) (h : ∀ b, σ[i]? = some b → SlotR K ga g F μ H s b) : Rel K ga g F μ (ρ.set i s) S σ H := by
  have no : ∀ j a, OwnAt (ρ.set i s) σ j a → OwnAt ρ σ j a := fun j a q => by
    rcases ownAt_set1 q with ⟨_, z⟩ | q
    · rw [hs] at z; cases z
    · exact q
  exact ⟨r.r0, r.gr, pset1 i r.env h, fun j k a q1 q2 => r.apart j k a (no j a q1) (no k a q2), fun q hq => let ⟨t1, t2, t3⟩ := r.tmp q hq; ⟨t1, t2, fun j z => t3 j (no j _ z)⟩⟩
/-- a name is read: its list is a value from now on -/
theorem Rel.read {i : Nat} {v : Val} (r : Rel K ga g F μ ρ S σ H) (h : (ρ[i]?).bind slotV = some v) : ∃ F' x, Le F F' ∧ σ[i]? = some (some x) ∧ Rel K ga g F' μ (ρ.set i (.pv v)) S σ H ∧ RV K ga F' μ v x := by
  obtain ⟨s, e, hs⟩ := Option.bind_eq_some_iff.mp h
  obtain ⟨b, e2, q⟩ := pget r.env e
  cases s with
  | unb => cases hs
  | pv w =>
    cases hs
    obtain ⟨x, eb, t⟩ := q
    subst eb
    exact ⟨F, x, Le.refl _, e2, r.setGhost i rfl fun b' eb' => by rw [e2] at eb'; cases eb'; exact ⟨x, rfl, t⟩, t⟩
  | ol vs =>
    cases hs
    obtain ⟨a, xs, eb, h1, h2, h3⟩ := q
    subst eb
    have r1 : Rel K ga g F μ (ρ.set i .unb) S σ H := r.setGhost i rfl fun _ _ => trivial
    have fr : Free g F μ (ρ.set i .unb) σ a := by
      refine ⟨h1, fun j z => ?_, fun q hq z => ?_⟩
      · have hj : j ≠ i := fun z' => by
          subst z'
          obtain ⟨⟨t, et, ho⟩, _⟩ := z
          rw [List.getElem?_set] at et
          simp only [if_true] at et
          split at et
          · cases et; cases ho
          · cases et
        have z' : OwnAt ρ σ j a := by
          obtain ⟨⟨t, et, ho⟩, e5⟩ := z
          rw [List.getElem?_set_ne (Ne.symm hj)] at et
          exact ⟨⟨t, et, ho⟩, e5⟩
        exact hj (r.apart j i a z' ⟨⟨_, e, rfl⟩, e2⟩)
      · obtain ⟨_, _, t3⟩ := r.tmp q hq
        rw [z] at t3
        exact t3 i ⟨⟨_, e, rfl⟩, e2⟩
    have l := Le.upd (o := HO.lst xs) h1.1
    have r2 := r1.frz fr h2
    have t : RV K ga (upd F a (.lst xs)) μ (.lst vs) (.ref a) := by
      simp only [RV]
      exact ⟨a, xs, rfl, .inl (.inl upd_same), h3.mono l (Pre.refl _)⟩
    have r3 := r2.setGhost (s := .pv (.lst vs)) i rfl fun b' eb' => by rw [e2] at eb'; cases eb'; exact ⟨_, rfl, t⟩
    rw [List.set_set] at r3
    exact ⟨_, _, l, e2, r3, t⟩
  | od vs =>
    cases hs
    obtain ⟨a, xs, eb, h1, h2, h3⟩ := q
    subst eb
    have r1 : Rel K ga g F μ (ρ.set i .unb) S σ H := r.setGhost i rfl fun _ _ => trivial
    have fr : Free g F μ (ρ.set i .unb) σ a := by
      refine ⟨h1, fun j z => ?_, fun q hq z => ?_⟩
      · have hj : j ≠ i := fun z' => by
          subst z'
          obtain ⟨⟨t, et, ho⟩, _⟩ := z
          rw [List.getElem?_set] at et
          simp only [if_true] at et
          split at et
          · cases et; cases ho
          · cases et
        have z' : OwnAt ρ σ j a := by
          obtain ⟨⟨t, et, ho⟩, e5⟩ := z
          rw [List.getElem?_set_ne (Ne.symm hj)] at et
          exact ⟨⟨t, et, ho⟩, e5⟩
        exact hj (r.apart j i a z' ⟨⟨_, e, rfl⟩, e2⟩)
      · obtain ⟨_, _, t3⟩ := r.tmp q hq
        rw [z] at t3
        exact t3 i ⟨⟨_, e, rfl⟩, e2⟩
    have l := Le.upd (o := HO.dK xs) h1.1
    have r2 := r1.frz fr h2
    have t : RV K ga (upd F a (.dK xs)) μ (.dic vs) (.ref a) := by
      simp only [RV]
      exact ⟨a, xs, rfl, .inl upd_same, h3.mono l (Pre.refl _)⟩
    have r3 := r2.setGhost (s := .pv (.dic vs)) i rfl fun b' eb' => by rw [e2] at eb'; cases eb'; exact ⟨_, rfl, t⟩
    rw [List.set_set] at r3
    exact ⟨_, _, l, e2, r3, t⟩
/-- behind a call -/
theorem Rel.call (r : Rel K ga g F μ ρ S σ H) (r' : Rel0 K ga F' μ' S' H') (G : Grow F μ H F' μ' H') : Rel K ga g F' μ' ρ S' σ H' := by
  have keepO : ∀ b, Own g F μ b → (∃ o, H b = some o) → Own g F' μ' b := fun b ⟨h1, h2, h3⟩ ⟨o, ho⟩ => by
    refine ⟨?_, fun hm => ?_, h3⟩
    · cases e : F' b with
      | none => rfl
      | some u =>
        rcases G.newF b (by rw [e]; simp) with z | z
        · exact absurd h1 z
        · rw [ho] at z; cases z
    · rcases G.newM b hm with z | z
      · exact h2 z
      · rw [ho] at z; cases z
  refine ⟨r', ⟨r.gr.le.trans G.le, r.gr.pre.trans G.pre, fun b u e n => ?_, fun b e => ?_, fun b hm => ?_⟩, pimpI r.env fun i s b e1 e2 q => SlotR.imp G.le G.pre q fun a u ea ho hu => ?_, r.apart, fun q hq => ?_⟩
  · have h1 := r.gr.keep b u e n
    refine G.keep b u h1 fun hm => ?_
    rcases r.gr.newM b hm with z | z
    · exact n z
    · rw [e] at z; cases z
  · rcases G.newF b e with z | z
    · exact r.gr.newF b z
    · refine .inr ?_
      cases q : g.H0 b with
      | none => rfl
      | some u =>
        obtain ⟨u', e'⟩ := r.some0 q
        rw [e'] at z; cases z
  · rcases G.newM b hm with z | z
    · exact r.gr.newM b z
    · refine .inr ?_
      cases q : g.H0 b with
      | none => rfl
      | some u =>
        obtain ⟨u', e'⟩ := r.some0 q
        rw [e'] at z; cases z
  · have hO := own_some r.env (a := a) (i := i) ⟨⟨s, e1, ho⟩, by rw [e2, ea]⟩
    exact ⟨G.keep a u hu hO.1.2.1, keepO a hO.1 hO.2⟩
  · obtain ⟨t1, t2, t3⟩ := r.tmp q hq
    exact ⟨G.keep _ _ t1 t2.2.1, keepO _ t2 ⟨_, t1⟩, t3⟩
theorem RR.of_call {x : RVal} {v : V} (r : Rel K ga g F μ ρ S σ H) (r' : Rel K ga g F' μ' ρ S' σ H') (h : RR0 K ga F' μ' H' H x v) : RR K ga g F' μ' ρ σ H' x v := by
  have fr : ∀ a, F' a = none → a ∉ μ' → H a = none → Free g F' μ' ρ σ a := fun a h1 h2 h3 => by
    obtain ⟨⟨_, _, k3⟩, k4, k5⟩ := r.free_new h3
    exact ⟨⟨h1, h2, k3⟩, k4, k5⟩
  cases x with
  | fz w => exact h
  | fl vs =>
    obtain ⟨a, xs, e, h1, h2, h3, h4, h5⟩ := h
    exact ⟨a, xs, e, h1, h2, fr a h3 h4 h5⟩
  | fd vs =>
    obtain ⟨a, xs, e, h1, h2, h3, h4, h5⟩ := h
    exact ⟨a, xs, e, h1, h2, fr a h3 h4 h5⟩
end
end Lk
end

section
set_option Elab.async false
set_option linter.all false
set_option maxRecDepth 100000
set_option maxHeartbeats 1000000
namespace Lk
open PySem
open L2 (V Hp HO upd upd_same upd_ne ne_of ne_of_none Key Rd SqL SqT VK XK WX TE TT TA TG TS PE PT PA PS PSs PG Cx Vis Loc Gl)

section
variable (K : PySem.W.Frag) (ga : GA)
/-- an exception of the class k with these fields -/
def XR (F : Hp) (μ : List Addr) (k : Nat) (fs : List (Nat × Val)) (cls : Value) (d : Option Addr) : Prop :=
  cls = .ref (ga.cls k) ∧ ((fs = [] ∧ d = none) ∨ ∃ dd xs, d = some dd ∧ F dd = some (.xd xs) ∧ Paired (fun p q => q.1 = ga.atr p.1 ∧ RV K ga F μ p.2 q.2) fs xs)
def Ok {α : Type} (W : WX) (g : Gh) (σ : L2.St) (F : Hp) (μ : List Addr) (o : Out α) (k : α → Hp → List Addr → Env → Mem → Hp → Prop) : Prop := match o with
  | .ok a ρ S => ∀ F' μ' H', Le F F' → Pre μ μ' → Rel K ga g F' μ' ρ S σ H' → k a F' μ' ρ S H'
  | .exc c fs ρ S => ∀ F' μ' H' cls d, Le F F' → Pre μ μ' → Rel K ga g F' μ' ρ S σ H' → XR K ga F' μ' c fs cls d → W cls d σ H'
  | .bad => False
/-- what is looked at -/
def RB (F : Hp) (μ : List Addr) (H : Hp) : Val → V → Prop
  | .lst vs, x => ∃ a xs, x = .ref a ∧ SqL K H a xs ∧ RVs K ga F μ vs xs
  | .dic kvs, x => ∃ a ks, x = .ref a ∧ Rd H a (.dK ks) ∧ RVd K ga F μ kvs ks
  | v, x => RV K ga F μ v x
def RBs (F : Hp) (μ : List Addr) (H : Hp) : List Val → List V → Prop := Paired (RB K ga F μ H)
def tM {α β : Type} (W : WX) (m : M α) (R : Gh → Hp → List Addr → Env → L2.St → Hp → α → β → Prop) : L2.St → Hp → (β → Hp → Prop) → Prop := fun σ H Q =>
  ∃ g F μ ρ S, Rel K ga g F μ ρ S σ H ∧ Ok K ga W g σ F μ (m ρ S) fun a F' μ' ρ' S' H' => ∀ x, R g F' μ' ρ' σ H' a x → Q x H'
def tE (W : WX) (m : M RVal) : TE := tM K ga W m (RR K ga)
def tV (W : WX) (m : M Val) : TE := tM K ga W m fun _ F μ _ _ _ v x => RV K ga F μ v x
def tA (W : WX) (m : M (List Val)) : TA := tM K ga W m fun _ F μ _ _ _ v x => RVs K ga F μ v x
def tB (W : WX) (m : M Bool) : TT := tM K ga W m fun _ _ _ _ _ _ b x => x = b
/-- an operand that has come: what it is when the others have -/
def Holds (g : Gh) (σ : L2.St) (F : Hp) (μ : List Addr) (o : Opd) (v : Option Val) (x : V) : Prop := ∀ F' μ' ρ S H, Le F F' → Pre μ μ' → Rel K ga g F' μ' ρ S σ H → ∀ w, o.post v ρ S = some w → RB K ga F' μ' H w x
def tP (W : WX) (c : Caller) (o : Opd) : TE := tM K ga W (o.pre c) fun g F μ _ σ _ v x => Holds K ga g σ F μ o v x
def tPs (W : WX) (c : Caller) (os : List Opd) : TA := tM K ga W (pres c os) fun g F μ _ σ _ vs xs => ∀ F' μ' ρ S H, Le F F' → Pre μ μ' → Rel K ga g F' μ' ρ S σ H → ∀ ws, posts os vs ρ S = some ws → RBs K ga F' μ' H ws xs
end
section
variable {K : PySem.W.Frag} {ga : GA} {W : WX} {g : Gh} {F F' H H' : Hp} {μ μ' : List Addr} {ρ : Env} {S S' : Mem} {σ : L2.St} {α β : Type}

theorem Ok.mono {o : Out α} {k : α → Hp → List Addr → Env → Mem → Hp → Prop} (l : Le F F') (p : Pre μ μ') (h : Ok K ga W g σ F μ o k) : Ok K ga W g σ F' μ' o k := by
  cases o with
  | ok a ρ S => exact fun F2 μ2 H2 l2 p2 r => h F2 μ2 H2 (l.trans l2) (p.trans p2) r
  | exc c fs ρ S => exact fun F2 μ2 H2 cls d l2 p2 r x => h F2 μ2 H2 cls d (l.trans l2) (p.trans p2) r x
  | bad => exact h
theorem Ok.imp {o : Out α} {k k' : α → Hp → List Addr → Env → Mem → Hp → Prop} (h : Ok K ga W g σ F μ o k) (f : ∀ a F' μ' ρ S H', Le F F' → Pre μ μ' → Rel K ga g F' μ' ρ S σ H' → k a F' μ' ρ S H' → k' a F' μ' ρ S H') : Ok K ga W g σ F μ o k' := by
  cases o with
  | ok a ρ S => exact fun F2 μ2 H2 l2 p2 r => f a F2 μ2 ρ S H2 l2 p2 r (h F2 μ2 H2 l2 p2 r)
  | exc c fs ρ S => exact h
  | bad => exact h
theorem Ok.bnd {m : M α} {f : α → M β} {k : β → Hp → List Addr → Env → Mem → Hp → Prop} (h : Ok K ga W g σ F μ (bnd m f ρ S) k) :
    Ok K ga W g σ F μ (m ρ S) fun a F' μ' ρ' S' _ => Ok K ga W g σ F' μ' (f a ρ' S') k := by
  unfold Lk.bnd at h
  cases e : m ρ S with
  | ok a ρ' S' =>
    rw [e] at h
    exact fun F2 μ2 H2 l2 p2 _ => Ok.mono l2 p2 h
  | exc c fs ρ' S' =>
    rw [e] at h
    exact h
  | bad =>
    rw [e] at h
    exact h
theorem Ok.ret {a : α} {k : α → Hp → List Addr → Env → Mem → Hp → Prop} (h : Ok K ga W g σ F μ (Lk.ret a ρ S) k) (r : Rel K ga g F μ ρ S σ H) : k a F μ ρ S H := h F μ H (Le.refl _) (Pre.refl _) r

theorem RB.of {v : Val} {x : V} (l : Le F H) (h : RV K ga F μ v x) : RB K ga F μ H v x := by
  cases v with
  | lst vs =>
    simp only [RV] at h
    obtain ⟨a, xs, e, q, t⟩ := h
    exact ⟨a, xs, e, l.sqL q, t⟩
  | dic kvs =>
    simp only [RV] at h
    obtain ⟨a, xs, e, q, t⟩ := h
    exact ⟨a, xs, e, l.rd q, t⟩
  | _ => exact h
/-- a shared object looked at -/
theorem RB.view {v : Val} {x : V} (r : Rel K ga g F μ ρ S σ H) (h : RB K ga F μ H v x) : RB K ga F μ H (view S v) x := by
  cases v with
  | loc n =>
    have h' : RV K ga F μ (.loc n) x := h
    simp only [RV] at h'
    obtain ⟨a, e, q⟩ := h'
    cases e2 : S[n]? with
    | none =>
      have ev : Lk.view S (Val.loc n) = Val.loc n := by simp only [Lk.view, e2]
      rw [ev]
      exact h
    | some m =>
      obtain ⟨b, e3, q3, q4⟩ := pget r.r0.mem e2
      rw [q] at e3
      cases e3
      cases m with
      | lst vs =>
        have ev : Lk.view S (Val.loc n) = Val.lst vs := by simp only [Lk.view, e2]
        rw [ev]
        obtain ⟨xs, e5, t⟩ := q4
        exact ⟨a, xs, e, .inl (.inl e5), t⟩
      | dic vs =>
        have ev : Lk.view S (Val.loc n) = Val.dic vs := by simp only [Lk.view, e2]
        rw [ev]
        obtain ⟨xs, e5, t⟩ := q4
        exact ⟨a, xs, e, .inl e5, t⟩
      | ins c fs => exact q4.elim
  | _ => exact h
theorem slot_rb {i : Nat} {v : Val} (r : Rel K ga g F μ ρ S σ H) (h : (ρ[i]?).bind slotV = some v) : ∃ x, σ[i]? = some (some x) ∧ RB K ga F μ H v x := by
  obtain ⟨s, e, hs⟩ := Option.bind_eq_some_iff.mp h
  obtain ⟨b, e2, q⟩ := pget r.env e
  cases s with
  | unb => cases hs
  | pv w =>
    cases hs
    obtain ⟨x, eb, t⟩ := q
    exact ⟨x, by rw [e2, eb], RB.of r.r0.sub t⟩
  | ol vs =>
    cases hs
    obtain ⟨a, xs, eb, h1, h2, h3⟩ := q
    exact ⟨.ref a, by rw [e2, eb], a, xs, rfl, .inl (.inl h2), h3⟩
  | od vs =>
    cases hs
    obtain ⟨a, xs, eb, h1, h2, h3⟩ := q
    exact ⟨.ref a, by rw [e2, eb], a, xs, rfl, .inl h2, h3⟩
end

theorem pe_imp {X : Cx} {e : PySem.Expr} {t t' : TE} (h : PE X e t) (f : ∀ σ H Q, t' σ H Q → t σ H Q) : PE X e t' := ⟨fun pins s σ H Q I q => h.run pins s σ H Q I (f σ H Q q)⟩
theorem pt_imp {X : Cx} {e : PySem.Expr} {t t' : TT} (h : PT X e t) (f : ∀ σ H Q, t' σ H Q → t σ H Q) : PT X e t' := ⟨fun pins s σ H Q I q => h.run pins s σ H Q I (f σ H Q q)⟩
theorem pa_imp {X : Cx} {e : List PySem.Expr} {t t' : TA} (h : PA X e t) (f : ∀ σ H Q, t' σ H Q → t σ H Q) : PA X e t' := ⟨fun pos pins s σ H Q I q => h.run pos pins s σ H Q I (f σ H Q q)⟩
theorem ps_imp {X : Cx} {e : Stmt} {t t' : TS} (h : PS X e t) (f : ∀ D σ H, t' D σ H → t D σ H) : PS X e t' := ⟨fun pins s σ H D I q => h.run pins s σ H D I (f D σ H q)⟩
theorem pss_imp {X : Cx} {e : List Stmt} {t t' : TS} (h : PSs X e t) (f : ∀ D σ H, t' D σ H → t D σ H) : PSs X e t' := ⟨fun pins s σ H D I q => h.run pins s σ H D I (f D σ H q)⟩

section
variable {X : Cx} {ga : GA} {W : WX} {c : Caller} {e : PySem.Expr}
/-- a value of what an expression gives -/
theorem pe_val {m : M RVal} (h : PE X e (tE X.K ga W m)) : PE X e (tV X.K ga W (valM m)) := pe_imp h fun σ H Q q => by
  obtain ⟨g, F, μ, ρ, S, r, q⟩ := q
  refine ⟨g, F, μ, ρ, S, r, Ok.imp (Ok.bnd q) fun a F1 μ1 ρ1 S1 H1 l p r1 k x rr => ?_⟩
  obtain ⟨F2, l2, r2, rv⟩ := r1.frzR rr
  exact k F2 μ1 H1 l2 (Pre.refl _) r2 x rv
theorem pe_name {i : Nat} {x : Str} {pos : Pos} (hN : X.N[i]? = some x) (hv : Vis X.env.scope x) (hd : (x == ("__debug__" : Str)) = false) (hcd : (x == ("__classdict__" : Str)) = false) :
    PE X (.Name x pos) (tE X.K ga W (bnd (readE i) fun v => ret (.fz v))) := pe_imp (L2.pe_var hN hv hd hcd) fun σ H Q q => by
  obtain ⟨g, F, μ, ρ, S, r, q⟩ := q
  unfold bnd readE at q
  cases e : (ρ[i]?).bind slotV with
  | none => rw [e] at q; exact q.elim
  | some v =>
    rw [e] at q
    obtain ⟨F', y, l, e2, r2, rv⟩ := r.read e
    exact ⟨y, e2, q F' μ H l (Pre.refl _) r2 y rv⟩
theorem pe_nameP {i : Nat} {x : Str} {pos : Pos} (hN : X.N[i]? = some x) (hv : Vis X.env.scope x) (hd : (x == ("__debug__" : Str)) = false) (hcd : (x == ("__classdict__" : Str)) = false) :
    PE X (.Name x pos) (tP X.K ga W c (.sl i)) := pe_imp (L2.pe_var hN hv hd hcd) fun σ H Q q => by
  obtain ⟨g, F, μ, ρ, S, r, q⟩ := q
  unfold Opd.pre bnd readB at q
  cases e : (ρ[i]?).bind slotV with
  | none => simp only [e] at q; exact q.elim
  | some v =>
    simp only [e] at q
    obtain ⟨y, e2, _⟩ := slot_rb r e
    refine ⟨y, e2, Ok.ret q r y fun F' μ' ρ' S' H' l p r' w hp => ?_⟩
    have hp' : ((ρ'[i]?).bind slotV).map (view S') = some w := hp
    obtain ⟨v', e3, hw⟩ := Option.map_eq_some_iff.mp hp'
    obtain ⟨y', e4, rb⟩ := slot_rb r' e3
    rw [e2] at e4
    cases e4
    rw [← hw]
    exact rb.view r'
theorem pe_opd {f : Caller → M Val} (h : PE X e (tV X.K ga W (f c))) : PE X e (tP X.K ga W c (.ex f)) := pe_imp h fun σ H Q q => by
  obtain ⟨g, F, μ, ρ, S, r, q⟩ := q
  refine ⟨g, F, μ, ρ, S, r, Ok.imp (Ok.bnd q) fun v F1 μ1 ρ1 S1 H1 l p r1 k x rv => ?_⟩
  refine Ok.ret k r1 x fun F' μ' ρ' S' H' l2 p2 r' w hp => ?_
  have hp' : some (view S' v) = some w := hp
  cases hp'
  exact (RB.of r'.r0.sub (rv.mono l2 p2)).view r'
theorem pe_const {v : Val} {y : V} (h : PE X e (L2.tC y)) (hv : ∀ F μ, RV X.K ga F μ v y) : PE X e (tE X.K ga W (ret (.fz v))) := pe_imp h fun σ H Q q => by
  obtain ⟨g, F, μ, ρ, S, r, q⟩ := q
  exact Ok.ret q r y (hv F μ)
/-- the arguments of a call -/
theorem pa_nilM : PA X [] (tA X.K ga W (argsM c [])) := pa_imp L2.pa_nil fun σ H Q q => by
  obtain ⟨g, F, μ, ρ, S, r, q⟩ := q
  exact Ok.ret q r [] RVs.nil
theorem pa_consM {es : List PySem.Expr} {f : Caller → M RVal} {fs : List (Caller → M RVal)} (h : PE X e (tE X.K ga W (f c))) (t : PA X es (tA X.K ga W (argsM c fs))) (hs : starEach (e :: es) X.env = (false, eval e X.env) :: starEach es X.env) :
    PA X (e :: es) (tA X.K ga W (argsM c (f :: fs))) := pa_imp (L2.pa_cons h t hs) fun σ H Q q => by
  obtain ⟨g, F, μ, ρ, S, r, q⟩ := q
  refine ⟨g, F, μ, ρ, S, r, Ok.imp (Ok.bnd q) fun v F1 μ1 ρ1 S1 H1 l p r1 k x rr => ?_⟩
  obtain ⟨F2, l2, r2, rv⟩ := r1.frzR rr
  refine ⟨g, F2, μ1, ρ1, S1, r2, Ok.imp (Ok.bnd (Ok.mono l2 (Pre.refl _) k)) fun vs F3 μ3 ρ3 S3 H3 l3 p3 r3 k3 xs rvs => ?_⟩
  exact Ok.ret k3 r3 _ (RVs.cons (rv.mono l3 p3) rvs)
/-- operands -/
theorem pa_nilP : PA X [] (tPs X.K ga W c []) := pa_imp L2.pa_nil fun σ H Q q => by
  obtain ⟨g, F, μ, ρ, S, r, q⟩ := q
  refine Ok.ret q r [] fun F' μ' ρ' S' H' _ _ _ ws hp => ?_
  have hp' : some [] = some ws := hp
  cases hp'
  exact .nil
theorem pa_consP {es : List PySem.Expr} {o : Opd} {os : List Opd} (h : PE X e (tP X.K ga W c o)) (t : PA X es (tPs X.K ga W c os)) (hs : starEach (e :: es) X.env = (false, eval e X.env) :: starEach es X.env) :
    PA X (e :: es) (tPs X.K ga W c (o :: os)) := pa_imp (L2.pa_cons h t hs) fun σ H Q q => by
  obtain ⟨g, F, μ, ρ, S, r, q⟩ := q
  refine ⟨g, F, μ, ρ, S, r, Ok.imp (Ok.bnd q) fun v F1 μ1 ρ1 S1 H1 l p r1 k x hx => ?_⟩
  refine ⟨g, F1, μ1, ρ1, S1, r1, Ok.imp (Ok.bnd k) fun vs F3 μ3 ρ3 S3 H3 l3 p3 r3 k3 xs hxs => ?_⟩
  refine Ok.ret k3 r3 (x :: xs) fun F' μ' ρ' S' H' l4 p4 r' ws hp => ?_
  have hp' : ((o.post v ρ' S').bind fun x => (posts os vs ρ' S').map (x :: ·)) = some ws := hp
  obtain ⟨w, h1, h2⟩ := Option.bind_eq_some_iff.mp hp'
  obtain ⟨ws', h3, h4⟩ := Option.map_eq_some_iff.mp h2
  subst h4
  exact .cons (hx F' μ' ρ' S' H' (l3.trans l4) (p3.trans p4) r' w h1) (hxs F' μ' ρ' S' H' l4 p4 r' ws' h3)
end
section
variable (K : PySem.W.Frag) (ga : GA)
/-- behind an operation: the new object is tracked, all else is as it was -/
def After (g : Gh) (F : Hp) (μ : List Addr) (ρ : Env) (S : Mem) (σ : L2.St) (rv : RVal) (Q : VK) : Prop := ∀ F' H' z, Le F F' → Rel K ga g F' μ ρ S σ H' → RR K ga g F' μ ρ σ H' rv z → Q z H'
def rP (p : Val → Val → Option RVal) : L2.R2 := fun x y H Q => ∃ g F μ ρ S σ a b rv, Rel K ga g F μ ρ S σ H ∧ RB K ga F μ H a x ∧ RB K ga F μ H b y ∧ p a b = some rv ∧ After K ga g F μ ρ S σ rv Q
def rPn (p : List Val → Option RVal) : List V → Hp → VK → Prop := fun xs H Q => ∃ g F μ ρ S σ as rv, Rel K ga g F μ ρ S σ H ∧ RBs K ga F μ H as xs ∧ p as = some rv ∧ After K ga g F μ ρ S σ rv Q
end
section
variable {X : Cx} {ga : GA} {W : WX} {c : Caller} {e a b : PySem.Expr} {K : PySem.W.Frag}
theorem app_ok {α : Type} {g : Gh} {F : Hp} {μ : List Addr} {σ : L2.St} {o : Option α} {ρ : Env} {S : Mem} {k : α → Hp → List Addr → Env → Mem → Hp → Prop} (h : Ok K ga W g σ F μ (optAt o ρ S) k) : ∃ r, o = some r ∧ ∀ F' H', Le F F' → Rel K ga g F' μ ρ S σ H' → k r F' μ ρ S H' := by
  cases o with
  | none => exact h.elim
  | some r => exact ⟨r, rfl, fun F' H' l r' => h F' μ H' l (Pre.refl _) r'⟩
/-- two operands: what the operation asks -/
theorem app2 {o1 o2 : Opd} {p : Val → Val → Option RVal} {σ : L2.St} {H : Hp} {Q : VK} (q : tE K ga W (app [o1, o2] (two p) c) σ H Q) :
    L2.tOp (rP K ga p) (tP K ga W c o1) (tP K ga W c o2) σ H Q := by
  obtain ⟨g, F, μ, ρ, S, r, q⟩ := q
  refine ⟨g, F, μ, ρ, S, r, Ok.imp (Ok.bnd (Ok.bnd q)) fun v F1 μ1 ρ1 S1 H1 l p1 r1 k x hx => ?_⟩
  refine ⟨g, F1, μ1, ρ1, S1, r1, Ok.imp (Ok.bnd (Ok.bnd k)) fun u F2 μ2 ρ2 S2 H2 l2 p2 r2 k2 y hy => ?_⟩
  have k3 := Ok.ret (a := [v, u]) (Ok.ret (a := [u]) k2 r2) r2
  obtain ⟨rv, h1, h2⟩ := app_ok k3
  obtain ⟨ws, h3, h4⟩ := Option.bind_eq_some_iff.mp h1
  have h3' : ((o1.post v ρ2 S2).bind fun x => (((o2.post u ρ2 S2).bind fun x => (posts [] [] ρ2 S2).map (x :: ·))).map (x :: ·)) = some ws := h3
  obtain ⟨w1, e1, h5⟩ := Option.bind_eq_some_iff.mp h3'
  obtain ⟨ws1, h6, e4⟩ := Option.map_eq_some_iff.mp h5
  obtain ⟨w2, e2, h7⟩ := Option.bind_eq_some_iff.mp h6
  have e3 : ws1 = [w2] := by
    have h7' : some [w2] = some ws1 := h7
    exact (Option.some.inj h7').symm
  subst e3 e4
  exact ⟨g, F2, μ2, ρ2, S2, σ, w1, w2, rv, r2, hx F2 μ2 ρ2 S2 H2 l2 p2 r2 w1 e1, hy F2 μ2 ρ2 S2 H2 (Le.refl _) (Pre.refl _) r2 w2 e2, h4, fun F' H' z l' r' rr => h2 F' H' l' r' z rr⟩
theorem appn {os : List Opd} {p : List Val → Option RVal} {σ : L2.St} {H : Hp} {Q : VK} (q : tE K ga W (app os p c) σ H Q) :
    tPs K ga W c os σ H fun xs H1 => rPn K ga p xs H1 Q := by
  obtain ⟨g, F, μ, ρ, S, r, q⟩ := q
  refine ⟨g, F, μ, ρ, S, r, Ok.imp (Ok.bnd q) fun vs F1 μ1 ρ1 S1 H1 l p1 r1 k xs hx => ?_⟩
  obtain ⟨rv, h1, h2⟩ := app_ok k
  obtain ⟨ws, h3, h4⟩ := Option.bind_eq_some_iff.mp h1
  exact ⟨g, F1, μ1, ρ1, S1, σ, ws, rv, r1, hx F1 μ1 ρ1 S1 H1 (Le.refl _) (Pre.refl _) r1 ws h3, h4, fun F' H' z l' r' rr => h2 F' H' l' r' z rr⟩
end
section
variable {K : PySem.W.Frag} {ga : GA} {g : Gh} {F H : Hp} {μ : List Addr} {ρ : Env} {S : Mem} {σ : L2.St} {Q : VK}
theorem After.val {v : Val} {x : V} (h : After K ga g F μ ρ S σ (.fz v) Q) (r : Rel K ga g F μ ρ S σ H) (rv : RV K ga F μ v x) : Q x H := h F H x (Le.refl _) r rv
theorem After.bl {b : Bool} (h : After K ga g F μ ρ S σ (.fz (.bl b)) Q) (r : Rel K ga g F μ ρ S σ H) : Q (.bl b) H := h.val r (by simp [RV])
theorem After.int {i : Int} (h : After K ga g F μ ρ S σ (.fz (.int i)) Q) (r : Rel K ga g F μ ρ S σ H) : Q (.int i) H := h.val r (by simp [RV])
theorem After.str {i : Str} (h : After K ga g F μ ρ S σ (.fz (.str i)) Q) (r : Rel K ga g F μ ρ S σ H) : Q (.str i) H := h.val r (by simp [RV])
theorem After.lst {vs : List Val} {xs : List V} {p : Addr} (h : After K ga g F μ ρ S σ (.fl vs) Q) (r : Rel K ga g F μ ρ S σ H) (rv : RVs K ga F μ vs xs) (hp : H p = none) : Q (.ref p) (upd H p (.lst xs)) :=
  h F _ _ (Le.refl _) (r.alloc hp) ⟨p, xs, rfl, upd_same, rv, r.free_new hp⟩
theorem After.dic {vs : List (Val × Val)} {xs : List (Key × V)} {p : Addr} (h : After K ga g F μ ρ S σ (.fd vs) Q) (r : Rel K ga g F μ ρ S σ H) (rv : RVd K ga F μ vs xs) (hp : H p = none) : Q (.ref p) (upd H p (.dK xs)) :=
  h F _ _ (Le.refl _) (r.alloc hp) ⟨p, xs, rfl, upd_same, rv, r.free_new hp⟩
theorem After.tup {vs : List Val} {xs : List V} {p : Addr} (h : After K ga g F μ ρ S σ (.fz (.tup vs)) Q) (r : Rel K ga g F μ ρ S σ H) (rv : RVs K ga F μ vs xs) (hp : H p = none) : Q (.ref p) (upd H p (.tup xs)) := by
  have fr := r.free_new hp
  have r2 := (r.alloc (o := .tup xs) hp).frz fr upd_same
  refine h _ _ _ (Le.upd fr.1.1) r2 ?_
  show RV K ga _ μ (.tup vs) (.ref p)
  simp only [RV]
  exact ⟨p, xs, rfl, .inl (.inl upd_same), rv.mono (Le.upd fr.1.1) (Pre.refl _)⟩
end
end Lk
end

section
set_option Elab.async false
set_option linter.all false
set_option maxRecDepth 100000
set_option maxHeartbeats 2000000
namespace Lk
open PySem PyProof.Rows
open L2 (V Hp HO upd upd_same upd_ne ne_of ne_of_none Key Rd SqL SqT VK XK WX TE TT TA TG TS PE PT PA PS PSs PG Cx Vis Loc Gl OpR CallR IxR Inv RelV Vals HOk ObjOk RelO)

section
variable {K : PySem.W.Frag} {ga : GA} {F H : Hp} {μ : List Addr} {x : V}
theorem rb_non (h : RB K ga F μ H .non x) : x = .non := by simpa [RB, RV] using h
theorem rb_bl {b : Bool} (h : RB K ga F μ H (.bl b) x) : x = .bl b := by simpa [RB, RV] using h
theorem rb_int {b : Int} (h : RB K ga F μ H (.int b) x) : x = .int b := by simpa [RB, RV] using h
theorem rb_str {b : Str} (h : RB K ga F μ H (.str b) x) : x = .str b := by simpa [RB, RV] using h
theorem rb_tup {vs : List Val} (h : RB K ga F μ H (.tup vs) x) : ∃ a xs, x = .ref a ∧ SqT K F a xs ∧ RVs K ga F μ vs xs := by simpa only [RB, RV] using h
theorem rb_lst {vs : List Val} (h : RB K ga F μ H (.lst vs) x) : ∃ a xs, x = .ref a ∧ SqL K H a xs ∧ RVs K ga F μ vs xs := h
theorem rb_dic {vs : List (Val × Val)} (h : RB K ga F μ H (.dic vs) x) : ∃ a xs, x = .ref a ∧ Rd H a (.dK xs) ∧ RVd K ga F μ vs xs := h
theorem le_sqT {a : Addr} {xs : List V} (l : Le F H) (h : SqT K F a xs) : SqT K H a xs := l.sqT h
theorem rvs_one {v : Val} {xs : List V} (h : RBs K ga F μ H [v] xs) : ∃ y, xs = [y] ∧ RB K ga F μ H v y := by
  cases h with
  | cons r t => cases t; exact ⟨_, rfl, r⟩
theorem rbs_two {v w : Val} {xs : List V} (h : RBs K ga F μ H [v, w] xs) : ∃ y z, xs = [y, z] ∧ RB K ga F μ H v y ∧ RB K ga F μ H w z := by
  cases h with
  | cons r t =>
    obtain ⟨z, e, r2⟩ := rvs_one t
    exact ⟨_, z, by rw [e], r, r2⟩
end

section
variable {X : Cx} {ga : GA}
theorem cap_line : cap = sizeLine := by rw [sizeLine_eq]; rfl
theorem some_fz {a b : Val} (h : (some (RVal.fz a) : Option RVal) = some (.fz b)) : a = b := by injection h with h; injection h

theorem sq_list {pins : List (Addr × Obj)} {σ : L2.St} {H : Hp} {s : Shared} (I : Inv X pins σ H s) {a : Addr} {xs : List V} (h : SqL X.K H a xs) : xs.length ≤ sizeLine := by
  obtain ⟨its, r, _, z⟩ := I.list h
  exact z
theorem sq_tup {pins : List (Addr × Obj)} {σ : L2.St} {H : Hp} {s : Shared} (I : Inv X pins σ H s) {a : Addr} {xs : List V} (h : SqT X.K H a xs) : xs.length ≤ sizeLine := by
  obtain ⟨its, r, _, z⟩ := I.tuple h
  exact z
/-- t + u, the left not empty | the left empty -/
theorem opm_add (hu : X.A.units + 64 < cLine) : OpR X (binaryOp .Add) (rP X.K ga addV) := by
  intro pins s σ H x y v u Q I rx ry h
  obtain ⟨g, F, μ, ρ, S, σ', a, b, rv, r, ra, rb, hp, aft⟩ := h
  match a, b, hp, ra, rb with
  | .int i, .int j, hp, ra, rb =>
    have e : rv = .fz (.int (i + j)) := (Option.some.inj hp).symm
    subst e
    exact L2.op_add pins s σ H x y v u Q I rx ry ⟨i, j, rb_int ra, rb_int rb, aft.int r⟩
  | .str i, .str j, hp, ra, rb =>
    have hp' : (if i.length + j.length ≤ cap then some (RVal.fz (.str (i ++ j))) else none) = some rv := hp
    split at hp'
    · rename_i hl
      cases hp'
      exact L2.op_add_str pins s σ H x y v u Q I rx ry ⟨i, j, rb_str ra, rb_str rb, by rw [← cap_line]; exact hl, aft.str r⟩
    · cases hp'
  | .lst as, .lst bs, hp, ra, rb =>
    obtain ⟨p, xs, e1, q1, t1⟩ := rb_lst ra
    obtain ⟨p2, ys, e2, q2, t2⟩ := rb_lst rb
    have hp' : (if (as ++ bs).length ≤ cap then some (RVal.fl (as ++ bs)) else none) = some rv := hp
    split at hp'
    · rename_i hl
      cases hp'
      subst e1 e2
      obtain rfl : v = Value.ref p := rx
      obtain rfl : u = Value.ref p2 := ry
      obtain ⟨its, r1, pl, _⟩ := I.list q1
      obtain ⟨its2, r2, pl2, _⟩ := I.list q2
      have hz : its.length + its2.length ≤ sizeLine := by
        rw [← r1.length, ← r2.length, t1.length, t2.length, ← List.length_append, ← cap_line]
        exact hl
      obtain ⟨⟨cls, dd, data, sl⟩, ho, hc, n, hd⟩ := id pl.isList
      obtain ⟨⟨cls2, dd2, data2, sl2⟩, ho2, hc2, n2, hd2⟩ := id pl2.isList
      simp only at hc hd hc2 hd2
      subst hc hd hc2 hd2
      have e : its.toArray ++ its2.toArray = (its ++ its2).toArray := by simp
      refine concat_meets ⟨_, ho, rfl⟩ ⟨_, ho2, rfl⟩ noFill_list_add seq_list_add PySem.F.slot_list_add PySem.F.entry_list_add (PySem.F.args_list_add_2 _ _) (list_addW p p2 its.toArray its2.toArray n n2 dd dd2 sl sl2 (by simpa using hz)) ⟨ho, ho2, ?_⟩
      rw [e]
      exact ⟨.ref _, _, I.lnew (t' := s.toks) (r1.append r2) (by rw [List.length_append, r1.length, r2.length]; exact hz), rfl, aft.lst r (t1.append t2) I.fresh⟩
    · cases hp'
  | .tup as, .tup bs, hp, ra, rb =>
    obtain ⟨p, xs, e1, q1, t1⟩ := rb_tup ra
    obtain ⟨p2, ys, e2, q2, t2⟩ := rb_tup rb
    have hp' : (if (as ++ bs).length ≤ cap then some (RVal.fz (.tup (as ++ bs))) else none) = some rv := hp
    split at hp'
    · rename_i hl
      cases hp'
      refine L2.op_catA pins s σ H x y v u Q I rx ry ⟨p, p2, xs, ys, e1, e2, r.r0.sub.sqT q1, r.r0.sub.sqT q2, ?_, fun z => ?_, fun _ z => ?_, fun _ _ a ha => aft.tup r (t1.append t2) ha⟩
      · rw [t1.length, t2.length, ← List.length_append, ← cap_line]
        exact hl
      · have ea : as = [] := List.eq_nil_of_length_eq_zero (by rw [← t1.length, z]; rfl)
        subst ea
        exact aft.val r (by rw [List.nil_append]; simp only [RV]; exact ⟨p2, ys, rfl, q2, t2⟩)
      · have eb : bs = [] := List.eq_nil_of_length_eq_zero (by rw [← t2.length, z]; rfl)
        subst eb
        exact aft.val r (by rw [List.append_nil]; simp only [RV]; exact ⟨p, xs, rfl, q1, t1⟩)
    · cases hp'
theorem opm_sub : OpR X (binaryOp .Sub) (rP X.K ga subV) := by
  intro pins s σ H x y v u Q I rx ry h
  obtain ⟨g, F, μ, ρ, S, σ', a, b, rv, r, ra, rb, hp, aft⟩ := h
  match a, b, hp, ra, rb with
  | .int i, .int j, hp, ra, rb =>
    have e : rv = .fz (.int (i - j)) := (Option.some.inj hp).symm
    subst e
    exact L2.op_sub pins s σ H x y v u Q I rx ry ⟨i, j, rb_int ra, rb_int rb, aft.int r⟩
theorem opm_mul : OpR X (binaryOp .Mult) (rP X.K ga mulV) := by
  intro pins s σ H x y v u Q I rx ry h
  obtain ⟨g, F, μ, ρ, S, σ', a, b, rv, r, ra, rb, hp, aft⟩ := h
  match a, b, hp, ra, rb with
  | .int i, .int j, hp, ra, rb =>
    have hp' : (if (small64 i || small64 j) = true then some (RVal.fz (.int (i * j))) else none) = some rv := hp
    split at hp'
    · rename_i hl
      cases hp'
      refine L2.op_mul pins s σ H x y v u Q I rx ry ⟨i, j, rb_int ra, rb_int rb, ?_, aft.int r⟩
      simp only [small64, Bool.or_eq_true, Bool.and_eq_true, decide_eq_true_eq] at hl
      exact hl
    · cases hp'
theorem opm_fdiv : OpR X (binaryOp .FloorDiv) (rP X.K ga fdivV) := by
  intro pins s σ H x y v u Q I rx ry h
  obtain ⟨g, F, μ, ρ, S, σ', a, b, rv, r, ra, rb, hp, aft⟩ := h
  match a, b, hp, ra, rb with
  | .int i, .int j, hp, ra, rb =>
    have hp' : (if 0 < j ∧ j < 1073741824 then some (RVal.fz (.int (i / j))) else none) = some rv := hp
    split at hp'
    · rename_i hl
      cases hp'
      exact L2.op_fdiv pins s σ H x y v u Q I rx ry ⟨i, j, rb_int ra, rb_int rb, hl, aft.int r⟩
    · cases hp'
theorem opm_mod : OpR X (binaryOp .Mod) (rP X.K ga modV) := by
  intro pins s σ H x y v u Q I rx ry h
  obtain ⟨g, F, μ, ρ, S, σ', a, b, rv, r, ra, rb, hp, aft⟩ := h
  match a, b, hp, ra, rb with
  | .int i, .int j, hp, ra, rb =>
    have hp' : (if 0 < j then some (RVal.fz (.int (i % j))) else none) = some rv := hp
    split at hp'
    · rename_i hl
      cases hp'
      exact L2.op_mod pins s σ H x y v u Q I rx ry ⟨i, j, rb_int ra, rb_int rb, hl, aft.int r⟩
    · cases hp'
theorem opm_pow : OpR X (binaryOp .Pow) (rP X.K ga powV) := by
  intro pins s σ H x y v u Q I rx ry h
  obtain ⟨g, F, μ, ρ, S, σ', a, b, rv, r, ra, rb, hp, aft⟩ := h
  match a, b, hp, ra, rb with
  | .int i, .int j, hp, ra, rb =>
    have hp' : (if 0 ≤ j ∧ j ≤ 1000 ∧ i.natAbs < 1024 then some (RVal.fz (.int (i ^ j.toNat))) else none) = some rv := hp
    split at hp'
    · rename_i hl
      cases hp'
      exact L2.op_pow pins s σ H x y v u Q I rx ry ⟨i, j, rb_int ra, rb_int rb, ⟨hl.1, by omega, by omega⟩, aft.int r⟩
    · cases hp'
theorem opm_bin (hu : X.A.units + 64 < cLine) {op : Operator} {p : Val → Val → Option RVal} (h : binV op = some p) : OpR X (binaryOp op) (rP X.K ga p) := by
  cases op <;> simp only [binV] at h <;> first
    | (cases h; first | exact opm_add hu | exact opm_sub | exact opm_mul | exact opm_fdiv | exact opm_mod | exact opm_pow)
    | cases h
/-- comparisons of ints -/
theorem opm_lt : OpR X (compareOp .Lt) (rP X.K ga ltV) := by
  intro pins s σ H x y v u Q I rx ry h
  obtain ⟨g, F, μ, ρ, S, σ', a, b, rv, r, ra, rb, hp, aft⟩ := h
  match a, b, hp, ra, rb with
  | .int i, .int j, hp, ra, rb =>
    cases (Option.some.inj hp : RVal.fz (.bl (decide (i < j))) = rv)
    exact L2.op_lt pins s σ H x y v u Q I rx ry ⟨i, j, rb_int ra, rb_int rb, aft.bl r⟩
theorem opm_le : OpR X (compareOp .LtE) (rP X.K ga leV) := by
  intro pins s σ H x y v u Q I rx ry h
  obtain ⟨g, F, μ, ρ, S, σ', a, b, rv, r, ra, rb, hp, aft⟩ := h
  match a, b, hp, ra, rb with
  | .int i, .int j, hp, ra, rb =>
    cases (Option.some.inj hp : RVal.fz (.bl (decide (i ≤ j))) = rv)
    exact L2.op_le pins s σ H x y v u Q I rx ry ⟨i, j, rb_int ra, rb_int rb, aft.bl r⟩
theorem opm_gt : OpR X (compareOp .Gt) (rP X.K ga gtV) := by
  intro pins s σ H x y v u Q I rx ry h
  obtain ⟨g, F, μ, ρ, S, σ', a, b, rv, r, ra, rb, hp, aft⟩ := h
  match a, b, hp, ra, rb with
  | .int i, .int j, hp, ra, rb =>
    cases (Option.some.inj hp : RVal.fz (.bl (decide (j < i))) = rv)
    exact L2.op_gt pins s σ H x y v u Q I rx ry ⟨i, j, rb_int ra, rb_int rb, aft.bl r⟩
theorem opm_ge : OpR X (compareOp .GtE) (rP X.K ga geV) := by
  intro pins s σ H x y v u Q I rx ry h
  obtain ⟨g, F, μ, ρ, S, σ', a, b, rv, r, ra, rb, hp, aft⟩ := h
  match a, b, hp, ra, rb with
  | .int i, .int j, hp, ra, rb =>
    cases (Option.some.inj hp : RVal.fz (.bl (decide (j ≤ i))) = rv)
    exact L2.op_ge pins s σ H x y v u Q I rx ry ⟨i, j, rb_int ra, rb_int rb, aft.bl r⟩
end
end Lk
end

section
set_option Elab.async false
set_option linter.all false
set_option maxRecDepth 100000
set_option maxHeartbeats 2000000
namespace Lk
open PySem PyProof.Rows
open L2 (V Hp HO upd upd_same upd_ne ne_of ne_of_none Key Rd SqL SqT VK XK WX TE TT TA TG TS PE PT PA PS PSs PG Cx Vis Loc Gl OpR CallR IxR SlR UnR Inv RelV Vals HOk ObjOk RelO)

mutual
def toD : Val → PyData
  | .bl b => .bool b
  | .int i => .int i
  | .str x => .str x
  | .tup vs => .tuple (toDs vs)
  | .lst vs => .list (toDs vs)
  | _ => .none
def toDs : List Val → List PyData
  | [] => []
  | v :: r => toD v :: toDs r
end
mutual
theorem plain_D : ∀ (v : Val) (n : Nat), plain n v = true → (toD v).plain = true ∧ (toD v).depth ≤ n
  | .non, _, _ => ⟨rfl, Nat.zero_le _⟩
  | .bl _, _, _ => ⟨rfl, Nat.zero_le _⟩
  | .int _, _, _ => ⟨rfl, Nat.zero_le _⟩
  | .str _, _, _ => ⟨rfl, Nat.zero_le _⟩
  | .tup vs, 0, h => by simp [plain] at h
  | .tup vs, n + 1, h => by
    obtain ⟨h1, h2⟩ := plains_D vs n (by simpa [plain] using h)
    exact ⟨by simpa [toD, PyData.plain] using h1, by simp only [toD, PyData.depth]; omega⟩
  | .lst vs, 0, h => by simp [plain] at h
  | .lst vs, n + 1, h => by
    obtain ⟨h1, h2⟩ := plains_D vs n (by simpa [plain] using h)
    exact ⟨by simpa [toD, PyData.plain] using h1, by simp only [toD, PyData.depth]; omega⟩
  | .dic _, n, h => by cases n <;> simp [plain] at h
  | .obj _ _, n, h => by cases n <;> simp [plain] at h
  | .loc _, n, h => by cases n <;> simp [plain] at h
  | .fn _, n, h => by cases n <;> simp [plain] at h
  | .cls _, n, h => by cases n <;> simp [plain] at h
  | .ty _, n, h => by cases n <;> simp [plain] at h
theorem plains_D : ∀ (vs : List Val) (n : Nat), plains n vs = true → PyData.plainAll (toDs vs) = true ∧ PyData.depthAll (toDs vs) ≤ n
  | [], _, _ => ⟨rfl, Nat.zero_le _⟩
  | v :: r, n, h => by
    have h' : plain n v = true ∧ plains n r = true := by simpa [plains] using h
    obtain ⟨h1, h2⟩ := plain_D v n h'.1
    obtain ⟨h3, h4⟩ := plains_D r n h'.2
    exact ⟨by simp [toDs, PyData.plainAll, h1, h3], by simp only [toDs, PyData.depthAll]; omega⟩
end
theorem beq_dec_int (i j : Int) : (i == j) = decide (i = j) := by rw [Bool.eq_iff_iff]; simp
theorem beq_dec_str (i j : Str) : (i == j) = decide (i = j) := by rw [Bool.eq_iff_iff]; simp
mutual
theorem eqv_D : ∀ (a b : Val) (n m : Nat), plain n a = true → plain m b = true → PyData.eqv (toD a) (toD b) = veq a b
  | .tup vs, .tup ws, n + 1, m + 1, h, h' => by
    simp only [toD, PyData.eqv, veq]
    exact eqvs_D vs ws n m (by simpa [plain] using h) (by simpa [plain] using h')
  | .lst vs, .lst ws, n + 1, m + 1, h, h' => by
    simp only [toD, PyData.eqv, veq]
    exact eqvs_D vs ws n m (by simpa [plain] using h) (by simpa [plain] using h')
  | .tup _, _, 0, _, h, _ => by simp [plain] at h
  | .lst _, _, 0, _, h, _ => by simp [plain] at h
  | _, .tup _, _, 0, _, h => by simp [plain] at h
  | _, .lst _, _, 0, _, h => by simp [plain] at h
  | .non, b, _, m + 1, _, h' => by cases b <;> first | rfl | simp [plain] at h'
  | .bl x, b, _, m + 1, _, h' => by cases b <;> first | rfl | (simp only [toD, PyData.eqv, veq, b2i, beq_dec_int]; done) | simp [plain] at h'
  | .int x, b, _, m + 1, _, h' => by cases b <;> first | rfl | (simp only [toD, PyData.eqv, veq, b2i, beq_dec_int]; done) | simp [plain] at h'
  | .str x, b, _, m + 1, _, h' => by cases b <;> first | rfl | (simp only [toD, PyData.eqv, veq, beq_dec_str]; done) | simp [plain] at h'
  | .tup _, .non, _ + 1, _ + 1, _, _ => rfl
  | .tup _, .bl _, _ + 1, _ + 1, _, _ => rfl
  | .tup _, .int _, _ + 1, _ + 1, _, _ => rfl
  | .tup _, .str _, _ + 1, _ + 1, _, _ => rfl
  | .tup _, .lst _, _ + 1, _ + 1, _, _ => rfl
  | .tup _, .dic _, _ + 1, m + 1, _, h' => by simp [plain] at h'
  | .tup _, .obj _ _, _ + 1, m + 1, _, h' => by simp [plain] at h'
  | .tup _, .loc _, _ + 1, m + 1, _, h' => by simp [plain] at h'
  | .tup _, .fn _, _ + 1, m + 1, _, h' => by simp [plain] at h'
  | .tup _, .cls _, _ + 1, m + 1, _, h' => by simp [plain] at h'
  | .tup _, .ty _, _ + 1, m + 1, _, h' => by simp [plain] at h'
  | .lst _, .non, _ + 1, _ + 1, _, _ => rfl
  | .lst _, .bl _, _ + 1, _ + 1, _, _ => rfl
  | .lst _, .int _, _ + 1, _ + 1, _, _ => rfl
  | .lst _, .str _, _ + 1, _ + 1, _, _ => rfl
  | .lst _, .tup _, _ + 1, _ + 1, _, _ => rfl
  | .lst _, .dic _, _ + 1, m + 1, _, h' => by simp [plain] at h'
  | .lst _, .obj _ _, _ + 1, m + 1, _, h' => by simp [plain] at h'
  | .lst _, .loc _, _ + 1, m + 1, _, h' => by simp [plain] at h'
  | .lst _, .fn _, _ + 1, m + 1, _, h' => by simp [plain] at h'
  | .lst _, .cls _, _ + 1, m + 1, _, h' => by simp [plain] at h'
  | .lst _, .ty _, _ + 1, m + 1, _, h' => by simp [plain] at h'
  | .non, b, _, 0, _, h' => by cases b <;> first | rfl | simp [plain] at h'
  | .bl x, b, _, 0, _, h' => by cases b <;> first | rfl | (simp only [toD, PyData.eqv, veq, b2i, beq_dec_int]; done) | simp [plain] at h'
  | .int x, b, _, 0, _, h' => by cases b <;> first | rfl | (simp only [toD, PyData.eqv, veq, b2i, beq_dec_int]; done) | simp [plain] at h'
  | .str x, b, _, 0, _, h' => by cases b <;> first | rfl | (simp only [toD, PyData.eqv, veq, beq_dec_str]; done) | simp [plain] at h'
  | .tup _, b, _ + 1, 0, _, h' => by cases b <;> first | rfl | simp [plain] at h'
  | .lst _, b, _ + 1, 0, _, h' => by cases b <;> first | rfl | simp [plain] at h'
  | .dic _, _, n, _, h, _ => by cases n <;> simp [plain] at h
  | .obj _ _, _, n, _, h, _ => by cases n <;> simp [plain] at h
  | .loc _, _, n, _, h, _ => by cases n <;> simp [plain] at h
  | .fn _, _, n, _, h, _ => by cases n <;> simp [plain] at h
  | .cls _, _, n, _, h, _ => by cases n <;> simp [plain] at h
  | .ty _, _, n, _, h, _ => by cases n <;> simp [plain] at h
theorem eqvs_D : ∀ (a b : List Val) (n m : Nat), plains n a = true → plains m b = true → PyData.eqvAll (toDs a) (toDs b) = veqs a b
  | [], [], _, _, _, _ => rfl
  | [], _ :: _, _, _, _, _ => rfl
  | _ :: _, [], _, _, _, _ => rfl
  | v :: vs, w :: ws, n, m, h, h' => by
    have k : plain n v = true ∧ plains n vs = true := by simpa [plains] using h
    have k' : plain m w = true ∧ plains m ws = true := by simpa [plains] using h'
    simp only [toDs, PyData.eqvAll, veqs]
    rw [eqv_D v w n m k.1 k'.1, eqvs_D vs ws n m k.2 k'.2]
end
section
variable {X : Cx} {ga : GA} {pins : List (Addr × Obj)} {σ : L2.St} {H F : Hp} {s : Shared} {μ : List Addr}
mutual
theorem reads_of (I : Inv X pins σ H s) (l : Le F H) : ∀ (v : Val) (n : Nat) (x : V) (u : Value), plain n v = true → RV X.K ga F μ v x → RelV x u → ∃ as, Reads s.heap u (toD v) as
  | .non, _, _, _, _, h, r => by
    simp only [RV] at h; subst h; cases r
    exact ⟨_, .none⟩
  | .bl b, _, _, _, _, h, r => by
    simp only [RV] at h; subst h; cases r
    exact ⟨_, .bool b⟩
  | .int i, _, _, _, _, h, r => by
    simp only [RV] at h; subst h
    obtain ⟨t, rfl⟩ := r
    exact ⟨_, .int i t⟩
  | .str i, _, _, _, _, h, r => by
    simp only [RV] at h; subst h
    obtain ⟨t, rfl⟩ := r
    exact ⟨_, .str i t⟩
  | .tup vs, 0, _, _, p, _, _ => by simp [plain] at p
  | .lst vs, 0, _, _, p, _, _ => by simp [plain] at p
  | .tup vs, n + 1, _, _, p, h, r => by
    simp only [RV] at h
    obtain ⟨a, xs, rfl, q, t⟩ := h
    cases r
    obtain ⟨its, rv, ⟨o, h1, h2, m, h3⟩, _⟩ := I.tuple (l.sqT q)
    obtain ⟨as, h4⟩ := readss_of I l vs n xs its (by simpa [plain] using p) t rv
    exact ⟨_, .tuple h1 h2 h3 h4⟩
  | .lst vs, n + 1, _, _, p, h, r => by
    simp only [RV] at h
    obtain ⟨a, xs, rfl, q, t⟩ := h
    cases r
    obtain ⟨its, rv, pl, _⟩ := I.list (l.sqL q)
    obtain ⟨o, h1, h2, m, h3⟩ := pl.isList
    obtain ⟨as, h4⟩ := readss_of I l vs n xs its (by simpa [plain] using p) t rv
    exact ⟨_, .list h1 h2 h3 h4⟩
  | .dic _, n, _, _, h, _, _ => by cases n <;> simp [plain] at h
  | .obj _ _, n, _, _, h, _, _ => by cases n <;> simp [plain] at h
  | .loc _, n, _, _, h, _, _ => by cases n <;> simp [plain] at h
  | .fn _, n, _, _, h, _, _ => by cases n <;> simp [plain] at h
  | .cls _, n, _, _, h, _, _ => by cases n <;> simp [plain] at h
  | .ty _, n, _, _, h, _, _ => by cases n <;> simp [plain] at h
theorem readss_of (I : Inv X pins σ H s) (l : Le F H) : ∀ (vs : List Val) (n : Nat) (xs : List V) (us : List Value), plains n vs = true → RVs X.K ga F μ vs xs → Vals xs us → ∃ as, ReadsAll s.heap us (toDs vs) as
  | [], _, _, _, _, h, r => by
    simp only [RVs] at h; subst h; cases r
    exact ⟨_, .nil⟩
  | v :: vs, n, _, _, p, h, r => by
    have k : plain n v = true ∧ plains n vs = true := by simpa [plains] using p
    obtain ⟨y, ys, rfl, h1, h2⟩ := h.cons_inv
    cases r with
    | cons r1 r2 =>
      obtain ⟨as, q1⟩ := reads_of I l v n y _ k.1 h1 r1
      obtain ⟨bs, q2⟩ := readss_of I l vs n ys _ k.2 h2 r2
      exact ⟨_, .cons q1 q2⟩
end
theorem reads_rb (I : Inv X pins σ H s) (l : Le F H) {v : Val} {n : Nat} {x : V} {u : Value} (p : plain n v = true) (h : RB X.K ga F μ H v x) (r : RelV x u) : ∃ as, Reads s.heap u (toD v) as := by
  cases v with
  | lst vs =>
    cases n with
    | zero => simp [plain] at p
    | succ n =>
      obtain ⟨a, xs, rfl, q, t⟩ := rb_lst h
      cases r
      obtain ⟨its, rv, pl, _⟩ := I.list q
      obtain ⟨o, h1, h2, m, h3⟩ := pl.isList
      obtain ⟨as, h4⟩ := readss_of I l vs n xs its (by simpa [plain] using p) t rv
      exact ⟨_, .list h1 h2 h3 h4⟩
  | dic _ => cases n <;> simp [plain] at p
  | _ => exact reads_of (ga := ga) (μ := μ) I l _ n x u p h r
end
theorem toDs_any (x : Val) (n : Nat) (hx : plain n x = true) : ∀ (vs : List Val) (m : Nat), plains m vs = true → ((toDs vs).any fun y => PyData.eqv y (toD x)) = inL x vs
  | [], _, _ => rfl
  | v :: vs, m, h => by
    have k : plain m v = true ∧ plains m vs = true := by simpa [plains] using h
    simp only [toDs, List.any_cons, inL]
    rw [eqv_D v x m n k.1 hx, toDs_any x n hx vs m k.2]
    rfl
section
variable {X : Cx} {ga : GA}
theorem leaf_key {F : Hp} {μ : List Addr} {H : Hp} {K : PySem.W.Frag} {k : Val} {x : V} (h : leaf k = true) (r : RB K ga F μ H k x) : ∃ q, keyR k q ∧ x = L2.kV q := by
  cases k with
  | int i => exact ⟨.inl i, rfl, rb_int r⟩
  | str i => exact ⟨.inr i, rfl, rb_str r⟩
  | _ => cases h
theorem keyR_inj {a b : Val} {p q : Key} (h : keyR a p) (h' : keyR b q) : keq a b = decide (p = q) := by
  cases a <;> cases b <;> simp only [keyR] at h h' <;> first | (subst h h'; simp [keq]; done) | exact h.elim | exact h'.elim | skip
theorem rvd_get {K : PySem.W.Frag} {F : Hp} {μ : List Addr} {k : Val} {q : Key} (hk : keyR k q) : ∀ {kvs : List (Val × Val)} {ks : List (Key × V)}, RVd K ga F μ kvs ks → (dget kvs k = none ∧ L2.valV ks q = none) ∨ ∃ v y, dget kvs k = some v ∧ L2.valV ks q = some y ∧ RV K ga F μ v y
  | [], _, h => by
    simp only [RVd] at h
    subst h
    exact .inl ⟨rfl, rfl⟩
  | (k', v) :: r, _, h => by
    simp only [RVd] at h
    obtain ⟨q', y, ys, rfl, h1, h2, h3⟩ := h
    have e := keyR_inj h1 hk
    by_cases hq : q' = q
    · rw [decide_eq_true hq] at e
      refine .inr ⟨v, y, ?_, L2.valV_pos (p := (q', y)) hq, h2⟩
      simp [dget, List.find?_cons, e]
    · rw [decide_eq_false hq] at e
      have e1 : dget ((k', v) :: r) k = dget r k := by simp [dget, List.find?_cons, e]
      rw [e1, L2.valV_neg (p := (q', y)) hq]
      exact rvd_get hk h3
theorem dic_get {K : PySem.W.Frag} {F : Hp} {μ : List Addr} {H : Hp} {kvs : List (Val × Val)} {k : Val} {x y : V} (ra : RB K ga F μ H (.dic kvs) x) (hl : leaf k = true) (rk : RB K ga F μ H k y) : ∃ a o, x = .ref a ∧ L2.DGet H a y o ∧ ((dget kvs k = none ∧ o = none) ∨ ∃ v z, dget kvs k = some v ∧ o = some z ∧ RV K ga F μ v z) := by
  obtain ⟨a, ks, rfl, h1, h2⟩ := rb_dic ra
  obtain ⟨q, hq, rfl⟩ := leaf_key hl rk
  exact ⟨a, L2.valV ks q, rfl, .inl ⟨ks, q, h1, rfl, rfl⟩, rvd_get hq h2⟩
theorem kv_cons {ks : List (Key × V)} {vs : List (Key × Value)} {q : Key} {y : V} (h : L2.KV ((q, y) :: ks) vs) : ∃ u us, vs = (q, u) :: us ∧ RelV y u ∧ L2.KV ks us := by
  cases h with
  | cons h t =>
    obtain ⟨h1, h2⟩ := h
    rename_i p l
    obtain ⟨q', u⟩ := p
    simp only at h1 h2
    subst h1
    exact ⟨u, l, rfl, h2, t⟩
theorem hits_of {pins : List (Addr × Obj)} {σ : L2.St} {H F : Hp} {s : Shared} {μ : List Addr} (I : Inv X pins σ H s) (l : Le F H) {A : Around} (hu : A.units + 60 < cLine) {b : List (Val × Val)} {bs : List (Key × V)} {vb : List (Key × Value)} (hb : b.all (fun p => plain 59 p.2) = true) (rb : RVd X.K ga F μ b bs) (kb : L2.KV bs vb) :
    ∀ (a : List (Val × Val)) (as : List (Key × V)) (va : List (Key × Value)), a.all (fun p => plain 59 p.2) = true → RVd X.K ga F μ a as → L2.KV as va → PySem.W.KeqHits A s vb va (veqd a b)
  | [], _, _, _, ra, ka => by
    simp only [RVd] at ra
    subst ra
    cases ka
    exact .nil
  | (k, v) :: a, _, _, ha, ra, ka => by
    simp only [RVd] at ra
    obtain ⟨q, y, ys, rfl, h1, h2, h3⟩ := ra
    obtain ⟨u, us, rfl, ru, ku⟩ := kv_cons ka
    rw [List.all_cons, Bool.and_eq_true] at ha
    have ih := hits_of I l hu hb rb kb a ys us ha.2 h3 ku
    have rv := kb.val q
    unfold veqd
    rcases rvd_get h1 rb with ⟨e1, e2⟩ | ⟨v', y', e1, e2, r2⟩
    · rw [e2] at rv
      simp only [e1, Bool.false_and]
      refine .miss ?_
      cases e3 : valueAt vb q with
      | none => rfl
      | some z => rw [e3] at rv; exact rv.elim
    · rw [e2] at rv
      simp only [e1]
      cases e3 : valueAt vb q with
      | none => rw [e3] at rv; exact rv.elim
      | some z =>
        rw [e3] at rv
        have hp : plain 59 v' = true := by
          unfold dget at e1
          obtain ⟨p, e4, e5⟩ := Option.map_eq_some_iff.mp e1
          have := List.all_eq_true.mp hb p (List.mem_of_find?_eq_some e4)
          rw [← e5]
          exact this
        obtain ⟨as1, q1⟩ := reads_of (ga := ga) (μ := μ) I l v 59 y u ha.1 h2 ru
        obtain ⟨as2, q2⟩ := reads_of (ga := ga) (μ := μ) I l v' 59 y' z hp r2 rv
        obtain ⟨p1, d1⟩ := plain_D v 59 ha.1
        obtain ⟨p2, d2⟩ := plain_D v' 59 hp
        refine .hit e3 ?_ ih
        rw [← eqv_D v v' 59 59 ha.1 hp]
        exact SeqAt.eqAt_plain _ _ A s u z _ _ q1 q2 p1 p2 (by omega)
theorem opm_eq (hu : X.A.units + 64 < cLine) : OpR X (compareOp .Eq) (rP X.K ga eqV) := by
  intro pins s σ H x y v u Q I rx ry h
  obtain ⟨g, F, μ, ρ, S, σ', a, b, rv, r, ra, rb, hp, aft⟩ := h
  unfold eqV at hp
  split at hp
  · rename_i hc
    cases (Option.some.inj hp : RVal.fz (.bl (veq a b)) = rv)
    rw [Bool.or_eq_true] at hc
    rcases hc with hc | hc
    · rw [Bool.and_eq_true] at hc
      obtain ⟨as, qa⟩ := reads_rb I r.r0.sub hc.1 ra rx
      obtain ⟨bs, qb⟩ := reads_rb I r.r0.sub hc.2 rb ry
      obtain ⟨p1, d1⟩ := plain_D a 60 hc.1
      obtain ⟨p2, d2⟩ := plain_D b 60 hc.2
      refine SeqAt.eq_plain qa qb p1 p2 (by omega) ?_
      rw [eqv_D a b 60 60 hc.1 hc.2]
      exact ⟨.bl _, H, I, rfl, aft.bl r⟩
    · rw [Bool.and_eq_true] at hc
      cases a with
      | dic ka =>
        cases b with
        | dic kb =>
          obtain ⟨p1, ks1, rfl, h1, h2⟩ := rb_dic ra
          obtain ⟨p2, ks2, rfl, h3, h4⟩ := rb_dic rb
          cases rx
          cases ry
          obtain ⟨_, hd1, vs1, kv1, dd1⟩ := L2.dk_rd I.hok h1
          obtain ⟨_, hd2, vs2, kv2, dd2⟩ := L2.dk_rd I.hok h3
          have l1 : vs1.length = ka.length := by rw [← kv1.length, h2.length]
          have l2 : vs2.length = kb.length := by rw [← kv2.length, h4.length]
          refine PySem.W.keq_eq hd1 hd2 dd1 dd2 (by omega) (fun _ => hits_of I r.r0.sub (A := X.A.in1) (by show X.A.units + 1 + 60 < cLine; omega) (by simpa [dplain] using hc.2) h4 kv2 ka ks1 vs1 (by simpa [dplain] using hc.1) h2 kv1) ?_
          rw [l1, l2]
          exact ⟨.bl _, H, I, rfl, aft.bl r⟩
        | _ => cases hc.2
      | _ => cases hc.1
  · cases hp
theorem opm_ne (hu : X.A.units + 64 < cLine) : OpR X (compareOp .NotEq) (rP X.K ga neV) := by
  intro pins s σ H x y v u Q I rx ry h
  obtain ⟨g, F, μ, ρ, S, σ', a, b, rv, r, ra, rb, hp, aft⟩ := h
  unfold neV at hp
  split at hp
  · rename_i hc
    cases (Option.some.inj hp : RVal.fz (.bl (!veq a b)) = rv)
    rw [Bool.or_eq_true] at hc
    rcases hc with hc | hc
    · rw [Bool.and_eq_true] at hc
      obtain ⟨as, qa⟩ := reads_rb I r.r0.sub hc.1 ra rx
      obtain ⟨bs, qb⟩ := reads_rb I r.r0.sub hc.2 rb ry
      obtain ⟨p1, d1⟩ := plain_D a 60 hc.1
      obtain ⟨p2, d2⟩ := plain_D b 60 hc.2
      refine SeqAt.ne_plain qa qb p1 p2 (by omega) ?_
      rw [eqv_D a b 60 60 hc.1 hc.2]
      exact ⟨.bl _, H, I, rfl, aft.bl r⟩
    · rw [Bool.and_eq_true] at hc
      cases a with
      | dic ka =>
        cases b with
        | dic kb =>
          obtain ⟨p1, ks1, rfl, h1, h2⟩ := rb_dic ra
          obtain ⟨p2, ks2, rfl, h3, h4⟩ := rb_dic rb
          cases rx
          cases ry
          obtain ⟨_, hd1, vs1, kv1, dd1⟩ := L2.dk_rd I.hok h1
          obtain ⟨_, hd2, vs2, kv2, dd2⟩ := L2.dk_rd I.hok h3
          have l1 : vs1.length = ka.length := by rw [← kv1.length, h2.length]
          have l2 : vs2.length = kb.length := by rw [← kv2.length, h4.length]
          refine PySem.W.keq_ne hd1 hd2 dd1 dd2 (by omega) (fun _ => hits_of I r.r0.sub (A := X.A.in1) (by show X.A.units + 1 + 60 < cLine; omega) (by simpa [dplain] using hc.2) h4 kv2 ka ks1 vs1 (by simpa [dplain] using hc.1) h2 kv1) ?_
          rw [l1, l2]
          exact ⟨.bl _, H, I, rfl, aft.bl r⟩
        | _ => cases hc.2
      | _ => cases hc.1
  · cases hp
theorem opm_in (hu : X.A.units + 64 < cLine) : OpR X (compareOp .In) (rP X.K ga (inV false)) := by
  intro pins s σ H x y v u Q I rx ry h
  obtain ⟨g, F, μ, ρ, S, σ', a, b, rv, r, ra, rb, hp, aft⟩ := h
  match b, hp, rb with
  | .lst vs, hp, rb =>
    have hp : (if (plain 60 a && plains 60 vs) = true then rbl (xor false (inL a vs)) else none) = some rv := by cases a <;> exact hp
    split at hp
    · rename_i hc
      rw [Bool.and_eq_true] at hc
      cases (Option.some.inj hp : RVal.fz (.bl (xor false (inL a vs))) = rv)
      obtain ⟨as, qa⟩ := reads_rb I r.r0.sub hc.1 ra rx
      obtain ⟨bs, qb⟩ := reads_rb (n := 61) I r.r0.sub (v := .lst vs) (by simpa [plain] using hc.2) rb ry
      obtain ⟨p1, d1⟩ := plain_D a 60 hc.1
      obtain ⟨p2, d2⟩ := plains_D vs 60 hc.2
      refine SeqAt.in_list_data qb qa p2 p1 (by omega) ?_
      rw [toDs_any a 60 hc.1 vs 60 hc.2]
      exact ⟨.bl _, H, I, rfl, by simpa using aft.bl r⟩
    · cases hp
  | .tup vs, hp, rb =>
    have hp : (if (plain 60 a && plains 60 vs) = true then rbl (xor false (inL a vs)) else none) = some rv := by cases a <;> exact hp
    split at hp
    · rename_i hc
      rw [Bool.and_eq_true] at hc
      cases (Option.some.inj hp : RVal.fz (.bl (xor false (inL a vs))) = rv)
      obtain ⟨as, qa⟩ := reads_rb I r.r0.sub hc.1 ra rx
      obtain ⟨bs, qb⟩ := reads_rb (n := 61) I r.r0.sub (v := .tup vs) (by simpa [plain] using hc.2) rb ry
      obtain ⟨p1, d1⟩ := plain_D a 60 hc.1
      obtain ⟨p2, d2⟩ := plains_D vs 60 hc.2
      refine SeqAt.in_tuple_data qb qa p2 p1 (by omega) ?_
      rw [toDs_any a 60 hc.1 vs 60 hc.2]
      exact ⟨.bl _, H, I, rfl, by simpa using aft.bl r⟩
    · cases hp
  | .dic kvs, hp, rb =>
    have hp : (if leaf a = true then rbl (xor false (dget kvs a).isSome) else none) = some rv := by cases a <;> exact hp
    split at hp
    · rename_i hc
      cases (Option.some.inj hp : RVal.fz (.bl (xor false (dget kvs a).isSome)) = rv)
      obtain ⟨p, o, rfl, d, e⟩ := dic_get rb hc ra
      cases ry
      have eo : o.isSome = (dget kvs a).isSome := by
        rcases e with ⟨e1, e2⟩ | ⟨v, z, e1, e2, _⟩ <;> rw [e1, e2] <;> rfl
      exact L2.d_in (by omega) I d rx fun s' I' => ⟨.bl _, H, I', rfl, by rw [eo]; simpa using aft.bl r⟩
    · cases hp
theorem opm_notIn (hu : X.A.units + 64 < cLine) : OpR X (compareOp .NotIn) (rP X.K ga (inV true)) := by
  intro pins s σ H x y v u Q I rx ry h
  obtain ⟨g, F, μ, ρ, S, σ', a, b, rv, r, ra, rb, hp, aft⟩ := h
  match b, hp, rb with
  | .lst vs, hp, rb =>
    have hp : (if (plain 60 a && plains 60 vs) = true then rbl (xor true (inL a vs)) else none) = some rv := by cases a <;> exact hp
    split at hp
    · rename_i hc
      rw [Bool.and_eq_true] at hc
      cases (Option.some.inj hp : RVal.fz (.bl (xor true (inL a vs))) = rv)
      obtain ⟨as, qa⟩ := reads_rb I r.r0.sub hc.1 ra rx
      obtain ⟨bs, qb⟩ := reads_rb (n := 61) I r.r0.sub (v := .lst vs) (by simpa [plain] using hc.2) rb ry
      obtain ⟨p1, d1⟩ := plain_D a 60 hc.1
      obtain ⟨p2, d2⟩ := plains_D vs 60 hc.2
      refine SeqAt.notIn_list_data qb qa p2 p1 (by omega) ?_
      rw [toDs_any a 60 hc.1 vs 60 hc.2]
      exact ⟨.bl _, H, I, rfl, by simpa using aft.bl r⟩
    · cases hp
  | .tup vs, hp, rb =>
    have hp : (if (plain 60 a && plains 60 vs) = true then rbl (xor true (inL a vs)) else none) = some rv := by cases a <;> exact hp
    split at hp
    · rename_i hc
      rw [Bool.and_eq_true] at hc
      cases (Option.some.inj hp : RVal.fz (.bl (xor true (inL a vs))) = rv)
      obtain ⟨as, qa⟩ := reads_rb I r.r0.sub hc.1 ra rx
      obtain ⟨bs, qb⟩ := reads_rb (n := 61) I r.r0.sub (v := .tup vs) (by simpa [plain] using hc.2) rb ry
      obtain ⟨p1, d1⟩ := plain_D a 60 hc.1
      obtain ⟨p2, d2⟩ := plains_D vs 60 hc.2
      refine SeqAt.notIn_tuple_data qb qa p2 p1 (by omega) ?_
      rw [toDs_any a 60 hc.1 vs 60 hc.2]
      exact ⟨.bl _, H, I, rfl, by simpa using aft.bl r⟩
    · cases hp
  | .dic kvs, hp, rb =>
    have hp : (if leaf a = true then rbl (xor true (dget kvs a).isSome) else none) = some rv := by cases a <;> exact hp
    split at hp
    · rename_i hc
      cases (Option.some.inj hp : RVal.fz (.bl (xor true (dget kvs a).isSome)) = rv)
      obtain ⟨p, o, rfl, d, e⟩ := dic_get rb hc ra
      cases ry
      have eo : o.isSome = (dget kvs a).isSome := by
        rcases e with ⟨e1, e2⟩ | ⟨v, z, e1, e2, _⟩ <;> rw [e1, e2] <;> rfl
      exact L2.d_notIn (by omega) I d rx fun s' I' => ⟨.bl _, H, I', rfl, by rw [eo]; simpa using aft.bl r⟩
    · cases hp
theorem opm_cmp (hu : X.A.units + 64 < cLine) {op : CmpOp} {p : Val → Val → Option RVal} (h : cmpV op = some p) : OpR X (compareOp op) (rP X.K ga p) := by
  cases op <;> simp only [cmpV] at h <;> first
    | (cases h; first | exact opm_eq hu | exact opm_ne hu | exact opm_lt | exact opm_le | exact opm_gt | exact opm_ge | exact opm_in hu | exact opm_notIn hu)
    | cases h
theorem rvs_at {K : PySem.W.Frag} {F : Hp} {μ : List Addr} {vs : List Val} {xs : List V} {i : Int} {w : Val} (t : RVs K ga F μ vs xs) (h : L2.atI vs i = some w) : ∃ z, L2.atI xs i = some z ∧ RV K ga F μ w z := by
  unfold L2.atI at h ⊢
  rw [t.length]
  obtain ⟨j, h1, h2⟩ := Option.bind_eq_some_iff.mp h
  obtain ⟨z, h3, h4⟩ := t.get h2
  exact ⟨z, by rw [h1]; exact h3, h4⟩
theorem ixm_get (hu : X.A.units + 64 < cLine) : IxR X (rP X.K ga getV) := by
  intro value slice pins s σ H x y v u Q I rx ry h hs
  obtain ⟨g, F, μ, ρ, S, σ', a, b, rv, r, ra, rb, hp, aft⟩ := h
  match a, b, hp, ra, rb with
  | .lst vs, .int i, hp, ra, rb =>
    obtain ⟨w, h1, h2⟩ := Option.map_eq_some_iff.mp (show (L2.atI vs i).map RVal.fz = some rv from hp)
    subst h2
    obtain ⟨p, xs, rfl, q, t⟩ := rb_lst ra
    obtain ⟨z, h3, h4⟩ := rvs_at t h1
    exact L2.ix_list value slice pins s σ H _ y v u Q I rx ry ⟨p, xs, i, z, rfl, rb_int rb, q, h3, aft.val r h4⟩ hs
  | .tup vs, .int i, hp, ra, rb =>
    obtain ⟨w, h1, h2⟩ := Option.map_eq_some_iff.mp (show (L2.atI vs i).map RVal.fz = some rv from hp)
    subst h2
    obtain ⟨p, xs, rfl, q, t⟩ := rb_tup ra
    obtain ⟨z, h3, h4⟩ := rvs_at t h1
    exact L2.ix_tup value slice pins s σ H _ y v u Q I rx ry ⟨p, xs, i, z, rfl, rb_int rb, r.r0.sub.sqT q, h3, aft.val r h4⟩ hs
  | .str x', .int i, hp, ra, rb =>
    have hp' : (if x'.length ≤ cap then (L2.atI x'.cps.toList i).map fun c => RVal.fz (.str ⟨#[c]⟩) else none) = some rv := hp
    split at hp'
    · rename_i hl
      obtain ⟨w, h1, h2⟩ := Option.map_eq_some_iff.mp hp'
      subst h2
      exact L2.ix_str value slice pins s σ H x y v u Q I rx ry ⟨x', i, w, rb_str ra, rb_int rb, by rw [← cap_line]; exact hl, h1, aft.str r⟩ hs
    · cases hp'
  | .dic kvs, k, hp, ra, rb =>
    have hp' : (if leaf k = true then (dget kvs k).map RVal.fz else none) = some rv := hp
    split at hp'
    · rename_i hl
      obtain ⟨w, h1, h2⟩ := Option.map_eq_some_iff.mp hp'
      subst h2
      obtain ⟨p, o, rfl, d, e⟩ := dic_get ra hl rb
      cases rx
      rcases e with ⟨e1, _⟩ | ⟨v', z, e1, rfl, h4⟩
      · rw [h1] at e1; cases e1
      · rw [h1] at e1; cases e1
        exact tail_any (L2.dict_typeIs I d) slot_dict_getitem.lookup (L2.d_getItem (by omega) I d ry fun w' s' I' rw' => ⟨z, H, I', rw', aft.val r h4⟩) hs
    · cases hp'
end
end Lk
end

section
set_option Elab.async false
set_option linter.all false
set_option maxRecDepth 100000
set_option maxHeartbeats 2000000
namespace Lk
open PySem PyProof.Rows
open L2 (V Hp HO upd upd_same upd_ne ne_of ne_of_none Key Rd SqL SqT VK XK WX TE TT TA TG TS PE PT PA PS PSs PG Cx Vis Loc Gl OpR CallR IxR SlR UnR Inv RelV Vals HOk ObjOk RelO)

section
variable {X : Cx} {ga : GA} {W : WX} {c : Caller} {a b e : PySem.Expr} {pos : Pos} {es : List PySem.Expr}
theorem star_ok (h : isStar e = false) : starEach (e :: es) X.env = (false, eval e X.env) :: starEach es X.env := by
  cases e <;> first | rfl | cases h
theorem star_all (h : ∀ e ∈ es, isStar e = false) : (starEach es X.env).any (·.1) = false := by
  induction es with
  | nil => rfl
  | cons e r ih =>
    rw [star_ok (h e (by simp)), List.any_cons, ih fun x hx => h x (by simp [hx])]
    rfl
theorem back_any (p : Pos) (ts : List (Bool × Sem Value)) : (backTo p ts).any (·.1) = ts.any (·.1) := by
  unfold backTo
  rw [List.any_map]
  rfl
theorem plain_ix (h : ∀ x y z p, b ≠ .Slice x y z p) : L2.PlainIx b := by
  intro o i
  cases b <;> first | rfl | exact absurd rfl (h _ _ _ _)

theorem pe_binM {o : Operator} {p : Val → Val → Option RVal} {o1 o2 : Opd} (hu : X.A.units + 64 < cLine) (hp : binV o = some p) (ha : PE X a (tP X.K ga W c o1)) (hb : PE X b (tP X.K ga W c o2)) :
    PE X (.BinOp a o b pos) (tE X.K ga W (app [o1, o2] (two p) c)) := pe_imp (L2.pe_op (opm_bin (ga := ga) hu hp) ha hb) fun σ H Q q => app2 q
theorem pe_cmpM {o : CmpOp} {p : Val → Val → Option RVal} {o1 o2 : Opd} (hu : X.A.units + 64 < cLine) (hp : cmpV o = some p) (ha : PE X a (tP X.K ga W c o1)) (hb : PE X b (tP X.K ga W c o2)) (hm : behindInMarks o b = false) :
    PE X (.Compare a [o] [b] pos) (tE X.K ga W (app [o1, o2] (two p) c)) := pe_imp (L2.pe_cmpR (opm_cmp (ga := ga) hu hp) ha hb hm) fun σ H Q q => app2 q
theorem pe_ixM {o1 o2 : Opd} (hu : X.A.units + 64 < cLine) (ha : PE X a (tP X.K ga W c o1)) (hb : PE X b (tP X.K ga W c o2)) (hs : L2.PlainIx b) :
    PE X (.Subscript a b pos) (tE X.K ga W (app [o1, o2] (two getV) c)) := pe_imp (L2.pe_ix (ixm_get (ga := ga) hu) ha hb hs) fun σ H Q q => app2 q
/-- one operand -/
def rP1 (K : PySem.W.Frag) (ga : GA) (p : List Val → Option RVal) : V → Hp → VK → Prop := fun x H Q => ∃ g F μ ρ S σ a rv, Rel K ga g F μ ρ S σ H ∧ RB K ga F μ H a x ∧ p [a] = some rv ∧ After K ga g F μ ρ S σ rv Q
theorem app1 {K : PySem.W.Frag} {o1 : Opd} {p : List Val → Option RVal} {σ : L2.St} {H : Hp} {Q : VK} (q : tE K ga W (app [o1] p c) σ H Q) : tP K ga W c o1 σ H fun x H1 => rP1 K ga p x H1 Q := by
  obtain ⟨g, F, μ, ρ, S, r, q⟩ := q
  refine ⟨g, F, μ, ρ, S, r, Ok.imp (Ok.bnd (Ok.bnd q)) fun v F1 μ1 ρ1 S1 H1 l p1 r1 k x hx => ?_⟩
  have k3 := Ok.ret (a := [v]) (Ok.ret (a := []) (Ok.bnd k) r1) r1
  obtain ⟨rv, h1, h2⟩ := app_ok k3
  obtain ⟨ws, h3, h4⟩ := Option.bind_eq_some_iff.mp h1
  have h3' : ((o1.post v ρ1 S1).bind fun x => ((posts [] [] ρ1 S1).map (x :: ·))) = some ws := h3
  obtain ⟨w1, e1, h5⟩ := Option.bind_eq_some_iff.mp h3'
  have e3 : ws = [w1] := by
    have h7' : some [w1] = some ws := h5
    exact (Option.some.inj h7').symm
  subst e3
  exact ⟨g, F1, μ1, ρ1, S1, σ, w1, rv, r1, hx F1 μ1 ρ1 S1 H1 (Le.refl _) (Pre.refl _) r1 w1 e1, h4, fun F' H' z l' r' rr => h2 F' H' l' r' z rr⟩
def isNo : Val → Bool
  | .non => true
  | _ => false
theorem rb_notnon {K : PySem.W.Frag} {F : Hp} {μ : List Addr} {H : Hp} {v : Val} {x : V} (h : RB K ga F μ H v x) : decide (x = .non) = isNo v := by
  cases v with
  | non => rw [rb_non h]; rfl
  | bl b => rw [rb_bl h]; rfl
  | int b => rw [rb_int h]; rfl
  | str b => rw [rb_str h]; rfl
  | tup vs => obtain ⟨a, xs, rfl, _⟩ := rb_tup h; rfl
  | lst vs => obtain ⟨a, xs, rfl, _⟩ := rb_lst h; rfl
  | dic vs => obtain ⟨a, xs, rfl, _⟩ := rb_dic h; rfl
  | obj c fs => simp only [RB, RV] at h
  | loc n =>
    simp only [RB, RV] at h
    obtain ⟨a, rfl, _⟩ := h
    rfl
  | fn n => simp only [RB, RV] at h; subst h; rfl
  | cls n => simp only [RB, RV] at h; subst h; rfl
  | ty n => simp only [RB, RV] at h; subst h; rfl
theorem isN_imp {K : PySem.W.Frag} {o1 : Opd} {σ : L2.St} {H : Hp} {Q : VK} (q : tE K ga W (app [o1] (isNonV false) c) σ H Q) : L2.tOp (fun x y H Q => y = .non ∧ Q (.bl (decide (x = .non))) H) (tP K ga W c o1) (L2.tC .non) σ H Q := by
  obtain ⟨g, F, μ, ρ, S, r, q⟩ := app1 q
  refine ⟨g, F, μ, ρ, S, r, Ok.imp q fun v F1 μ1 ρ1 S1 H1 l p r1 k x hx => ⟨rfl, ?_⟩⟩
  obtain ⟨g, F, μ, ρ, S, σ', w, rv, r2, rb, hp, aft⟩ := k x hx
  have e := rb_notnon rb
  rw [e]
  cases w <;> (cases (Option.some.inj hp : _ = rv); exact aft.bl r2)
theorem pe_isN {o1 : Opd} (ha : PE X a (tP X.K ga W c o1)) {k : Nat} {p2 : Pos} : PE X (.Compare a [.Is] [.Constant .none k p2] pos) (tE X.K ga W (app [o1] (isNonV false) c)) :=
  pe_imp (L2.pe_cmpR L2.op_isN ha (L2.pe_non (pos := p2) (j := k)) rfl) fun σ H Q q => isN_imp q
theorem notN_imp {K : PySem.W.Frag} {o1 : Opd} {σ : L2.St} {H : Hp} {Q : VK} (q : tE K ga W (app [o1] (isNonV true) c) σ H Q) : L2.tOp (fun x y H Q => y = .non ∧ Q (.bl (!decide (x = .non))) H) (tP K ga W c o1) (L2.tC .non) σ H Q := by
  obtain ⟨g, F, μ, ρ, S, r, q⟩ := app1 q
  refine ⟨g, F, μ, ρ, S, r, Ok.imp q fun v F1 μ1 ρ1 S1 H1 l p r1 k x hx => ⟨rfl, ?_⟩⟩
  obtain ⟨g, F, μ, ρ, S, σ', w, rv, r2, rb, hp, aft⟩ := k x hx
  have e := rb_notnon rb
  rw [e]
  cases w <;> (cases (Option.some.inj hp : _ = rv); exact aft.bl r2)
theorem pe_notN {o1 : Opd} (ha : PE X a (tP X.K ga W c o1)) {k : Nat} {p2 : Pos} : PE X (.Compare a [.IsNot] [.Constant .none k p2] pos) (tE X.K ga W (app [o1] (isNonV true) c)) :=
  pe_imp (L2.pe_cmpR L2.op_notN ha (L2.pe_non (pos := p2) (j := k)) rfl) fun σ H Q q => notN_imp q
theorem pe_negM {o1 : Opd} (ha : PE X a (tP X.K ga W c o1)) : PE X (.UnaryOp .USub a pos) (tE X.K ga W (app [o1] negV c)) :=
  pe_imp (L2.pe_un L2.un_neg ha) fun σ H Q q => by
    obtain ⟨g, F, μ, ρ, S, r, q⟩ := app1 q
    refine ⟨g, F, μ, ρ, S, r, Ok.imp q fun v F1 μ1 ρ1 S1 H1 l p r1 k x hx => ?_⟩
    obtain ⟨g, F, μ, ρ, S, σ', w, rv, r2, rb, hp, aft⟩ := k x hx
    match w, hp, rb with
    | .int i, hp, rb =>
      cases (Option.some.inj hp : RVal.fz (.int (-i)) = rv)
      exact ⟨i, rb_int rb, aft.int r2⟩
theorem rvs_empty {K : PySem.W.Frag} {F : Hp} {μ : List Addr} {vs : List Val} {xs : List V} (h : RVs K ga F μ vs xs) : (!vs.isEmpty) = !xs.isEmpty := by
  cases vs with
  | nil => simp only [RVs] at h; subst h; rfl
  | cons v r => obtain ⟨y, ys, rfl, _⟩ := h.cons_inv; rfl
theorem tru_rb {K : PySem.W.Frag} {F : Hp} {μ : List Addr} {H : Hp} {v : Val} {x : V} {k : Bool} (l : Le F H) (h : RB K ga F μ H v x) (e : truV v = some k) : L2.TruV K x H k := by
  cases v with
  | non => rw [rb_non h]; exact (Option.some.inj e).symm
  | bl b => rw [rb_bl h]; exact (Option.some.inj e).symm
  | int b => rw [rb_int h]; exact (Option.some.inj e).symm
  | str b =>
    rw [rb_str h]
    simp only [truV] at e
    split at e
    · rename_i hl
      rw [cap_line] at hl
      exact ⟨hl, (Option.some.inj e).symm⟩
    · cases e
  | tup vs =>
    obtain ⟨a, xs, rfl, q, t⟩ := rb_tup h
    exact .inr (.inl ⟨xs, l.sqT q, by rw [← rvs_empty t]; exact (Option.some.inj e).symm⟩)
  | lst vs =>
    obtain ⟨a, xs, rfl, q, t⟩ := rb_lst h
    exact .inl ⟨xs, q, by rw [← rvs_empty t]; exact (Option.some.inj e).symm⟩
  | dic _ => cases e
  | obj _ _ => cases e
  | loc _ => cases e
  | fn _ => cases e
  | cls _ => cases e
  | ty _ => cases e
def truAt (v : Val) : M Bool := fun ρ S => match truV (view S v) with
  | none => .bad
  | some b => .ok b ρ S
theorem truAt_ok {g : Gh} {F : Hp} {μ : List Addr} {σ : L2.St} {H : Hp} {ρ : Env} {S : Mem} {K : PySem.W.Frag} {v : Val} {x : V} {k : Bool → Hp → List Addr → Env → Mem → Hp → Prop} (h : Ok K ga W g σ F μ (truAt v ρ S) k) (r : Rel K ga g F μ ρ S σ H) (rv : RV K ga F μ v x) :
    ∃ b, L2.TruV K x H b ∧ k b F μ ρ S H := by
  unfold truAt at h
  cases e : truV (view S v) with
  | none => rw [e] at h; exact h.elim
  | some b =>
    rw [e] at h
    exact ⟨b, tru_rb r.r0.sub ((RB.of r.r0.sub rv).view r) e, h F μ H (Le.refl _) (Pre.refl _) r⟩
theorem truM_eq (f : Caller → M RVal) : truM f c = bnd (valM (f c)) truAt := rfl
theorem pe_notM {f : Caller → M RVal} (ha : PE X a (tE X.K ga W (f c))) : PE X (.UnaryOp .Not a pos) (tE X.K ga W (bnd (truM f c) fun b => ret (.fz (.bl (!b))))) :=
  pe_imp (L2.pe_notT (pe_val ha)) fun σ H Q q => by
    obtain ⟨g, F, μ, ρ, S, r, q⟩ := q
    refine ⟨g, F, μ, ρ, S, r, Ok.imp (Ok.bnd (Ok.bnd q)) fun v F1 μ1 ρ1 S1 H1 l p r1 k x rv => ?_⟩
    obtain ⟨b, h1, h2⟩ := truAt_ok k r1 rv
    exact ⟨b, h1, Ok.ret h2 r1 (.bl (!b)) (by simp [RR, RV])⟩
theorem pt_truM {f : Caller → M RVal} (ha : PE X a (tE X.K ga W (f c))) (he : ∀ whole, isTrue a X.env whole = (do let v ← whole; standAt a.pos; holding [v] (truthy v))) : PT X a (tB X.K ga W (truM f c)) :=
  pt_imp (L2.pt_truth (pe_val ha) he) fun σ H Q q => by
    obtain ⟨g, F, μ, ρ, S, r, q⟩ := q
    refine ⟨g, F, μ, ρ, S, r, Ok.imp (Ok.bnd q) fun v F1 μ1 ρ1 S1 H1 l p r1 k x rv => ?_⟩
    obtain ⟨b, h1, h2⟩ := truAt_ok k r1 rv
    exact ⟨b, h1, h2 b rfl⟩
theorem app_all {α : Type} {os : List Opd} {p : List Val → Option α} {P : α → Prop} (hp : ∀ xs r, p xs = some r → P r) {ρ ρ' : Env} {S S' : Mem} {a : α} (e : app os p c ρ S = .ok a ρ' S') : P a := by
  unfold app bnd at e
  cases e1 : pres c os ρ S with
  | ok vs ρ1 S1 =>
    rw [e1] at e
    simp only at e
    cases e2 : (posts os vs ρ1 S1).bind p with
    | none => rw [e2] at e; cases e
    | some r =>
      rw [e2] at e
      cases e
      obtain ⟨ws, h1, h2⟩ := Option.bind_eq_some_iff.mp e2
      exact hp _ _ h2
  | exc c fs ρ1 S1 => rw [e1] at e; cases e
  | bad => rw [e1] at e; cases e
/-- a test of what gives bools -/
theorem test_of {K : PySem.W.Frag} {f : Caller → M RVal} {σ : L2.St} {H : Hp} {Q : Bool → Hp → Prop} (hb : ∀ ρ S a ρ' S', f c ρ S = .ok a ρ' S' → ∃ b, a = .fz (.bl b)) (q : tB K ga W (truM f c) σ H Q) : L2.tTest (tE K ga W (f c)) σ H Q := by
  obtain ⟨g, F, μ, ρ, S, r, q⟩ := q
  refine ⟨g, F, μ, ρ, S, r, ?_⟩
  have q1 := Ok.bnd (Ok.bnd q)
  cases e : f c ρ S with
  | ok a ρ' S' =>
    rw [e] at q1
    obtain ⟨b, eb⟩ := hb _ _ _ _ _ e
    subst eb
    intro F2 μ2 H2 l2 p2 r2 x hx
    have k := q1 F2 μ2 H2 l2 p2 r2
    have k2 := Ok.ret k r2
    have k3 : Q b H2 := k2 F2 μ2 H2 (Le.refl _) (Pre.refl _) r2 b rfl
    exact ⟨b, by simpa [RR, RV] using hx, k3⟩
  | exc c fs ρ' S' => rw [e] at q1; exact q1
  | bad => rw [e] at q1; exact q1
theorem rbl_bl {b : Bool} {r : RVal} (h : rbl b = some r) : ∃ k, r = .fz (.bl k) := ⟨b, (Option.some.inj h).symm⟩
theorem cmpV_bl {o : CmpOp} {p : Val → Val → Option RVal} (hp : cmpV o = some p) (x y : Val) (r : RVal) (h : p x y = some r) : ∃ k, r = .fz (.bl k) := by
  cases o <;> simp only [cmpV] at hp <;> first | (cases hp; done) | skip
  all_goals (have e := Option.some.inj hp; subst e)
  · simp only [eqV] at h; split at h; exact rbl_bl h; cases h
  · simp only [neV] at h; split at h; exact rbl_bl h; cases h
  · unfold ltV at h; split at h; exact rbl_bl h; cases h
  · unfold leV at h; split at h; exact rbl_bl h; cases h
  · unfold gtV at h; split at h; exact rbl_bl h; cases h
  · unfold geV at h; split at h; exact rbl_bl h; cases h
  · unfold inV at h; split at h <;> first | (split at h; exact rbl_bl h; cases h) | cases h
  · unfold inV at h; split at h <;> first | (split at h; exact rbl_bl h; cases h) | cases h
theorem pt_cmpM {o : CmpOp} {p : Val → Val → Option RVal} {o1 o2 : Opd} (hu : X.A.units + 64 < cLine) (hp : cmpV o = some p) (ha : PE X a (tP X.K ga W c o1)) (hb : PE X b (tP X.K ga W c o2)) (hm : behindInMarks o b = false) :
    PT X (.Compare a [o] [b] pos) (tB X.K ga W (truM (app [o1, o2] (two p)) c)) := pt_imp (L2.pt_cmpR (opm_cmp (ga := ga) hu hp) ha hb hm) fun σ H Q q =>
  app2 (test_of (fun ρ S a' ρ' S' e => app_all (P := fun r => ∃ k, r = .fz (.bl k)) (fun xs r h => by
    unfold two at h
    split at h
    · exact cmpV_bl hp _ _ _ h
    · cases h) e) q)
theorem isNon_bl {neg : Bool} {xs : List Val} {r : RVal} (h : isNonV neg xs = some r) : ∃ k, r = .fz (.bl k) := by
  unfold isNonV at h
  split at h <;> first | exact rbl_bl h | cases h
theorem pt_isN {o1 : Opd} (ha : PE X a (tP X.K ga W c o1)) {k : Nat} {p2 : Pos} : PT X (.Compare a [.Is] [.Constant .none k p2] pos) (tB X.K ga W (truM (app [o1] (isNonV false)) c)) :=
  pt_imp (L2.pt_cmpR L2.op_isN ha (L2.pe_non (pos := p2) (j := k)) rfl) fun σ H Q q => isN_imp (test_of (fun ρ S a' ρ' S' e => app_all (P := fun r => ∃ k, r = .fz (.bl k)) (fun xs r h => isNon_bl h) e) q)
theorem pt_notN {o1 : Opd} (ha : PE X a (tP X.K ga W c o1)) {k : Nat} {p2 : Pos} : PT X (.Compare a [.IsNot] [.Constant .none k p2] pos) (tB X.K ga W (truM (app [o1] (isNonV true)) c)) :=
  pt_imp (L2.pt_cmpR L2.op_notN ha (L2.pe_non (pos := p2) (j := k)) rfl) fun σ H Q q => notN_imp (test_of (fun ρ S a' ρ' S' e => app_all (P := fun r => ∃ k, r = .fz (.bl k)) (fun xs r h => isNon_bl h) e) q)
end
end Lk
end

section
set_option Elab.async false
set_option linter.all false
set_option maxRecDepth 100000
set_option maxHeartbeats 400000
namespace Lk
open PySem PyProof.Rows
open L2 (V Hp HO upd upd_same upd_ne ne_of ne_of_none Key Rd SqL SqT VK XK WX TE TT TA TG TS PE PT PA PS PSs PG Cx Vis Loc Gl OpR CallR IxR SlR UnR Inv RelV Vals HOk ObjOk RelO)

section
variable {X : Cx} {ga : GA} {W : WX} {c : Caller}
theorem crm_len : CallR X (.builtin "len") (rPn X.K ga lenV) := by
  intro pins s σ H xs us Q I rs h
  obtain ⟨g, F, μ, ρ, S, σ', as, rv, r, rb, hp, aft⟩ := h
  match as, hp, rb with
  | [.lst vs], hp, rb =>
    obtain ⟨y, rfl, q⟩ := rvs_one rb
    obtain ⟨a, ys, rfl, q, t⟩ := rb_lst q
    cases (Option.some.inj hp : RVal.fz (.int vs.length) = rv)
    exact L2.call_len_seq pins s σ H _ us Q I rs ⟨a, ys, rfl, .inl q, by rw [t.length]; exact aft.int r⟩
  | [.tup vs], hp, rb =>
    obtain ⟨y, rfl, q⟩ := rvs_one rb
    obtain ⟨a, ys, rfl, q, t⟩ := rb_tup q
    cases (Option.some.inj hp : RVal.fz (.int vs.length) = rv)
    exact L2.call_len_seq pins s σ H _ us Q I rs ⟨a, ys, rfl, .inr (r.r0.sub.sqT q), by rw [t.length]; exact aft.int r⟩
  | [.str z], hp, rb =>
    obtain ⟨y, rfl, q⟩ := rvs_one rb
    rw [rb_str q] at rs
    simp only [lenV] at hp
    split at hp
    · rename_i hl
      cases hp
      rw [cap_line] at hl
      exact L2.call_len_str pins s σ H _ us Q I rs ⟨z, rfl, hl, aft.int r⟩
    · cases hp
  | [.dic kvs], hp, rb =>
    obtain ⟨y, rfl, q⟩ := rvs_one rb
    obtain ⟨a, ks, rfl, q, t⟩ := rb_dic q
    cases (Option.some.inj hp : RVal.fz (.int kvs.length) = rv)
    obtain ⟨u, rfl, ru⟩ := L2.vals1 rs
    cases ru
    exact L2.d_len I q fun t' s' I' => ⟨.int ks.length, H, I', ⟨_, rfl⟩, by rw [t.length]; exact aft.int r⟩
theorem crm_int : CallR X (.type "int") (rPn X.K ga intV) := by
  intro pins s σ H xs us Q I rs h
  obtain ⟨g, F, μ, ρ, S, σ', as, rv, r, rb, hp, aft⟩ := h
  match as, hp, rb with
  | [.int i], hp, rb =>
    obtain ⟨y, rfl, q⟩ := rvs_one rb
    cases (Option.some.inj hp : RVal.fz (.int i) = rv)
    exact L2.call_int1 pins s σ H _ us Q I rs (.inl ⟨i, by rw [rb_int q], aft.int r⟩)
  | [.bl b], hp, rb =>
    obtain ⟨y, rfl, q⟩ := rvs_one rb
    cases (Option.some.inj hp : RVal.fz (.int (b2i b)) = rv)
    exact L2.call_int1 pins s σ H _ us Q I rs (.inr ⟨b, by rw [rb_bl q], aft.int r⟩)
theorem crm_list : CallR X (.type "list") (rPn X.K ga listV) := by
  intro pins s σ H xs us Q I rs h
  obtain ⟨g, F, μ, ρ, S, σ', as, rv, r, rb, hp, aft⟩ := h
  match as, hp, rb with
  | [.lst vs], hp, rb =>
    obtain ⟨y, rfl, q⟩ := rvs_one rb
    obtain ⟨a, ys, rfl, q, t⟩ := rb_lst q
    cases (Option.some.inj hp : RVal.fl vs = rv)
    exact L2.call_list_of pins s σ H _ us Q I rs ⟨a, ys, rfl, .inl q, fun l hl => aft.lst r t hl⟩
  | [.tup vs], hp, rb =>
    obtain ⟨y, rfl, q⟩ := rvs_one rb
    obtain ⟨a, ys, rfl, q, t⟩ := rb_tup q
    cases (Option.some.inj hp : RVal.fl vs = rv)
    exact L2.call_list_of pins s σ H _ us Q I rs ⟨a, ys, rfl, .inr (r.r0.sub.sqT q), fun l hl => aft.lst r t hl⟩
theorem crm_tuple : CallR X (.type "tuple") (rPn X.K ga tupleV) := by
  intro pins s σ H xs us Q I rs h
  obtain ⟨g, F, μ, ρ, S, σ', as, rv, r, rb, hp, aft⟩ := h
  match as, hp, rb with
  | [.lst vs], hp, rb =>
    obtain ⟨y, rfl, q⟩ := rvs_one rb
    obtain ⟨a, ys, rfl, q, t⟩ := rb_lst q
    cases (Option.some.inj hp : RVal.fz (.tup vs) = rv)
    exact L2.call_tuple_of pins s σ H _ us Q I rs ⟨a, ys, rfl, .inl ⟨q, fun l hl => aft.tup r t hl⟩⟩
  | [.tup vs], hp, rb =>
    obtain ⟨y, rfl, q⟩ := rvs_one rb
    obtain ⟨a, ys, rfl, q, t⟩ := rb_tup q
    cases (Option.some.inj hp : RVal.fz (.tup vs) = rv)
    exact L2.call_tuple_of pins s σ H _ us Q I rs ⟨a, ys, rfl, .inr ⟨r.r0.sub.sqT q, aft.val r (by simp only [RV]; exact ⟨a, ys, rfl, q, t⟩)⟩⟩
theorem crm_dict : CallR X (.type "dict") (rPn X.K ga dictV) := by
  intro pins s σ H xs us Q I rs h
  obtain ⟨g, F, μ, ρ, S, σ', as, rv, r, rb, hp, aft⟩ := h
  match as, hp, rb with
  | [.dic kvs], hp, rb =>
    obtain ⟨y, rfl, q⟩ := rvs_one rb
    obtain ⟨a, ks, rfl, q, t⟩ := rb_dic q
    cases (Option.some.inj hp : RVal.fd kvs = rv)
    obtain ⟨u, rfl, ru⟩ := L2.vals1 rs
    cases ru
    exact L2.d_copyOf I q fun p s' hp I' => ⟨.ref p, _, I', rfl, aft.dic r t hp⟩
theorem bools_rv {K : PySem.W.Frag} {F : Hp} {μ : List Addr} : ∀ {vs : List Val} {xs : List V} {bs : List Bool}, boolsOf vs = some bs → RVs K ga F μ vs xs → xs = bs.map V.bl
  | [], _, _, h, t => by
    simp only [RVs] at t
    cases h
    subst t; rfl
  | v :: vs, _, bs, h, t => by
    obtain ⟨y, ys, rfl, h1, h2⟩ := t.cons_inv
    cases v with
    | bl b =>
      have h' : (boolsOf vs).map (b :: ·) = some bs := h
      obtain ⟨bs', e1, e2⟩ := Option.map_eq_some_iff.mp h'
      subst e2
      have e3 : y = .bl b := by simpa [RV] using h1
      rw [e3, bools_rv e1 h2]; rfl
    | _ => cases h
theorem crm_all (hc : X.calm = true) : CallR X (.builtin "all") (rPn X.K ga allV) := by
  intro pins s σ H xs us Q I rs h
  obtain ⟨g, F, μ, ρ, S, σ', as, rv, r, rb, hp, aft⟩ := h
  match as, hp, rb with
  | [.lst vs], hp, rb =>
    obtain ⟨y, rfl, q⟩ := rvs_one rb
    obtain ⟨a, ys, rfl, q, t⟩ := rb_lst q
    obtain ⟨bs, h1, h2⟩ := Option.bind_eq_some_iff.mp (show (boolsOf vs).bind (fun bs => rbl (bs.all id)) = some rv from hp)
    cases h2
    exact L2.cr_all hc pins s σ H _ us Q I rs ⟨a, bs, rfl, by rw [← bools_rv h1 t]; exact q, aft.bl r⟩
theorem crm_any (hc : X.calm = true) : CallR X (.builtin "any") (rPn X.K ga anyV) := by
  intro pins s σ H xs us Q I rs h
  obtain ⟨g, F, μ, ρ, S, σ', as, rv, r, rb, hp, aft⟩ := h
  match as, hp, rb with
  | [.lst vs], hp, rb =>
    obtain ⟨y, rfl, q⟩ := rvs_one rb
    obtain ⟨a, ys, rfl, q, t⟩ := rb_lst q
    obtain ⟨bs, h1, h2⟩ := Option.bind_eq_some_iff.mp (show (boolsOf vs).bind (fun bs => rbl (bs.any id)) = some rv from hp)
    cases h2
    exact L2.cr_any hc pins s σ H _ us Q I rs ⟨a, bs, rfl, by rw [← bools_rv h1 t]; exact q, aft.bl r⟩
theorem boot_len' : bootBuiltins "len" = some (.builtin "len") := by decide +kernel
/-- a call of a built-in function -/
theorem pe_biM {x : Str} {p : List Val → Option RVal} {es : List PySem.Expr} {os : List Opd} {q pos : Pos} (hc : X.calm = true) (hx : biV x = some p) (hg : Gl X x) (hm : X.mg x = none) (ha : PA X es (tPs X.K ga W c os)) (hne : es ≠ []) (hs : ∀ e ∈ es, isStar e = false) :
    PE X (.Call (.Name x q) es [] pos) (tE X.K ga W (app os p c)) := by
  cases es with
  | nil => exact absurd rfl hne
  | cons e r =>
    have he := star_ok (X := X) (es := r) (hs e (by simp))
    have hpl : (backTo pos (starEach r X.env)).any (·.1) = false := by rw [back_any]; exact star_all fun y hy => hs y (by simp [hy])
    have blt : ∀ {id : String}, bootBuiltins x = some (.builtin id) → x ≠ "__name__" → (x == ("__debug__" : Str)) = false → CallR X (.builtin id) (rPn X.K ga p) → PE X (.Call (.Name x q) (e :: r) [] pos) (tE X.K ga W (app os p c)) := fun hv hn hd cr =>
      pe_imp (L2.pe_callB cr hg hm hv ha hn hd he hpl) fun σ H Q q => appn q
    have ty : ∀ {T : String}, bootBuiltins x = some (.type T) → x ≠ "__name__" → (x == ("__debug__" : Str)) = false → CallR X (.type T) (rPn X.K ga p) → PE X (.Call (.Name x q) (e :: r) [] pos) (tE X.K ga W (app os p c)) := fun hv hn hd cr =>
      pe_imp (L2.pe_callTy cr hg hm hv ha hn hd he hpl) fun σ H Q q => appn q
    unfold biV at hx
    repeat' split at hx
    all_goals first | cases hx | skip
    · rename_i h; subst h; exact blt boot_len' (by decide) (by decide) crm_len
    · rename_i h; subst h; exact ty boot_int (by decide) (by decide) crm_int
    · rename_i h; subst h; exact ty boot_list (by decide) (by decide) crm_list
    · rename_i h; subst h; exact ty boot_tuple (by decide) (by decide) crm_tuple
    · rename_i h; subst h; exact ty boot_dict (by decide) (by decide) crm_dict
    · rename_i h; subst h; exact blt boot_all (by decide) (by decide) (crm_all hc)
    · rename_i h; subst h; exact blt boot_any (by decide) (by decide) (crm_any hc)
def rSl (K : PySem.W.Frag) (ga : GA) : V → Option Int → Option Int → Hp → VK → Prop := fun x lo hi H Q => ∃ g F μ ρ S σ a rv, Rel K ga g F μ ρ S σ H ∧ RB K ga F μ H a x ∧ sliceV a lo hi = some rv ∧ After K ga g F μ ρ S σ rv Q
theorem cut_rvs {K : PySem.W.Frag} {F : Hp} {μ : List Addr} {vs : List Val} {xs : List V} (t : RVs K ga F μ vs xs) (lo hi : Option Int) : RVs K ga F μ (cut vs lo hi) (L2.cutV xs lo hi) := by
  unfold cut L2.cutV
  rw [t.length]
  exact RVs.take _ (RVs.drop _ t)
theorem cut_whole {vs : List Val} {lo hi : Option Int} (h1 : HT.sIx vs.length 0 lo = 0) (h2 : HT.sIx vs.length vs.length hi = vs.length) : cut vs lo hi = vs := by
  unfold cut
  rw [h1, h2]
  simp
theorem slm : SlR X (rSl X.K ga) := by
  intro pins s σ H x v vl vu lo hi sl Q I rx hs pl pu h
  obtain ⟨g, F, μ, ρ, S, σ', a, rv, r, rb, hp, aft⟩ := h
  match a, hp, rb with
  | .lst vs, hp, rb =>
    obtain ⟨p, xs, rfl, q, t⟩ := rb_lst rb
    cases (Option.some.inj hp : RVal.fl (cut vs lo hi) = rv)
    exact L2.sl_list pins s σ H _ v vl vu lo hi sl Q I rx hs pl pu ⟨p, xs, rfl, q, fun l hl => aft.lst r (cut_rvs t lo hi) hl⟩
  | .tup vs, hp, rb =>
    obtain ⟨p, xs, rfl, q, t⟩ := rb_tup rb
    cases (Option.some.inj hp : RVal.fz (.tup (cut vs lo hi)) = rv)
    refine L2.sl_tupA pins s σ H _ v vl vu lo hi sl Q I rx hs pl pu ⟨p, xs, rfl, r.r0.sub.sqT q, fun hw => ?_, fun _ l hl => aft.tup r (cut_rvs t lo hi) hl⟩
    rw [t.length] at hw
    exact aft.val r (by rw [cut_whole hw.1 hw.2]; simp only [RV]; exact ⟨p, xs, rfl, q, t⟩)
/-- two operands -/
def rP2 (K : PySem.W.Frag) (ga : GA) (p : List Val → Option RVal) : V → V → Hp → VK → Prop := fun x y H Q => ∃ g F μ ρ S σ a b rv, Rel K ga g F μ ρ S σ H ∧ RB K ga F μ H a x ∧ RB K ga F μ H b y ∧ p [a, b] = some rv ∧ After K ga g F μ ρ S σ rv Q
theorem app2' {K : PySem.W.Frag} {o1 o2 : Opd} {p : List Val → Option RVal} {σ : L2.St} {H : Hp} {Q : VK} (q : tE K ga W (app [o1, o2] p c) σ H Q) :
    tP K ga W c o1 σ H fun x H1 => tP K ga W c o2 σ H1 fun y H2 => rP2 K ga p x y H2 Q := by
  obtain ⟨g, F, μ, ρ, S, r, q⟩ := q
  refine ⟨g, F, μ, ρ, S, r, Ok.imp (Ok.bnd (Ok.bnd q)) fun v F1 μ1 ρ1 S1 H1 l p1 r1 k x hx => ?_⟩
  refine ⟨g, F1, μ1, ρ1, S1, r1, Ok.imp (Ok.bnd (Ok.bnd k)) fun u F2 μ2 ρ2 S2 H2 l2 p2 r2 k2 y hy => ?_⟩
  have k3 := Ok.ret (a := [v, u]) (Ok.ret (a := [u]) k2 r2) r2
  obtain ⟨rv, h1, h2⟩ := app_ok k3
  obtain ⟨ws, h3, h4⟩ := Option.bind_eq_some_iff.mp h1
  have h3' : ((o1.post v ρ2 S2).bind fun x => (((o2.post u ρ2 S2).bind fun x => (posts [] [] ρ2 S2).map (x :: ·))).map (x :: ·)) = some ws := h3
  obtain ⟨w1, e1, h5⟩ := Option.bind_eq_some_iff.mp h3'
  obtain ⟨ws1, h6, e4⟩ := Option.map_eq_some_iff.mp h5
  obtain ⟨w2, e2, h7⟩ := Option.bind_eq_some_iff.mp h6
  have e3 : ws1 = [w2] := by
    have h7' : some [w2] = some ws1 := h7
    exact (Option.some.inj h7').symm
  subst e3 e4
  exact ⟨g, F2, μ2, ρ2, S2, σ, w1, w2, rv, r2, hx F2 μ2 ρ2 S2 H2 l2 p2 r2 w1 e1, hy F2 μ2 ρ2 S2 H2 (Le.refl _) (Pre.refl _) r2 w2 e2, h4, fun F' H' z l' r' rr => h2 F' H' l' r' z rr⟩
section
variable {a b d : PySem.Expr} {pos p2 : Pos} {o1 o2 o3 : Opd}
theorem tP_imp {K : PySem.W.Frag} {o : Opd} {σ : L2.St} {H : Hp} {Q Q' : VK} (h : tP K ga W c o σ H Q) (f : ∀ x H', Q x H' → Q' x H') : tP K ga W c o σ H Q' := by
  obtain ⟨g, F, μ, ρ, S, r, q⟩ := h
  exact ⟨g, F, μ, ρ, S, r, Ok.imp q fun v F1 μ1 ρ1 S1 H1 l p1 r1 k x hx => f x H1 (k x hx)⟩
theorem pe_sl00 (ha : PE X a (tP X.K ga W c o1)) : PE X (.Subscript a (.Slice none none none p2) pos) (tE X.K ga W (app [o1] (sliceA false false) c)) :=
  pe_imp (L2.pe_slice (slm (ga := ga)) ha L2.po_none L2.po_none) fun σ H Q q => tP_imp (app1 q) fun x H1 h => by
    obtain ⟨g, F, μ, ρ, S, σ', w, rv, r, rb, hp, aft⟩ := h
    exact ⟨g, F, μ, ρ, S, σ', w, rv, r, rb, hp, aft⟩
theorem pe_sl10 (ha : PE X a (tP X.K ga W c o1)) (hb : PE X b (tP X.K ga W c o2)) : PE X (.Subscript a (.Slice (some b) none none p2) pos) (tE X.K ga W (app [o1, o2] (sliceA true false) c)) :=
  pe_imp (L2.pe_slice (slm (ga := ga)) ha (L2.po_some hb) L2.po_none) fun σ H Q q => tP_imp (app2' q) fun x H1 h => tP_imp h fun y H2 h => by
    obtain ⟨g, F, μ, ρ, S, σ', w, w2, rv, r, rb, rb2, hp, aft⟩ := h
    match w2, hp, rb2 with
    | .int i, hp, rb2 => exact ⟨i, rb_int rb2, g, F, μ, ρ, S, σ', w, rv, r, rb, hp, aft⟩
theorem pe_sl01 (ha : PE X a (tP X.K ga W c o1)) (hb : PE X b (tP X.K ga W c o2)) : PE X (.Subscript a (.Slice none (some b) none p2) pos) (tE X.K ga W (app [o1, o2] (sliceA false true) c)) :=
  pe_imp (L2.pe_slice (slm (ga := ga)) ha L2.po_none (L2.po_some hb)) fun σ H Q q => tP_imp (app2' q) fun x H1 h => tP_imp h fun y H2 h => by
    obtain ⟨g, F, μ, ρ, S, σ', w, w2, rv, r, rb, rb2, hp, aft⟩ := h
    match w2, hp, rb2 with
    | .int i, hp, rb2 => exact ⟨i, rb_int rb2, g, F, μ, ρ, S, σ', w, rv, r, rb, hp, aft⟩
theorem intM_ok {f : Caller → M RVal} {K : PySem.W.Frag} {g : Gh} {F : Hp} {μ : List Addr} {σ : L2.St} {ρ : Env} {S : Mem} {k : Int → Hp → List Addr → Env → Mem → Hp → Prop} (h : Ok K ga W g σ F μ (intM f c ρ S) k) :
    Ok K ga W g σ F μ (valM (f c) ρ S) fun v F' μ' ρ' S' H' => ∃ i, v = .int i ∧ k i F' μ' ρ' S' H' := Ok.imp (Ok.bnd h) fun v F' μ' ρ' S' H' l p r q => by
  cases v with
  | int i => exact ⟨i, rfl, Ok.ret q r⟩
  | _ => exact q.elim
theorem pe_sl11 {fl fh : Caller → M RVal} (ha : PE X a (tP X.K ga W c o1)) (hb : PE X b (tE X.K ga W (fl c))) (hd : PE X d (tE X.K ga W (fh c))) : PE X (.Subscript a (.Slice (some b) (some d) none p2) pos) (tE X.K ga W (sl11 o1 fl fh c)) :=
  pe_imp (L2.pe_slice (slm (ga := ga)) ha (L2.po_some (pe_val hb)) (L2.po_some (pe_val hd))) fun σ H Q q => by
    obtain ⟨g, F, μ, ρ, S, r, q⟩ := q
    refine ⟨g, F, μ, ρ, S, r, Ok.imp (Ok.bnd q) fun v F1 μ1 ρ1 S1 H1 l1 p1 r1 k x hx => ?_⟩
    refine ⟨g, F1, μ1, ρ1, S1, r1, Ok.imp (intM_ok (Ok.bnd k)) fun vi F2 μ2 ρ2 S2 H2 l2 p2 r2 k2 y hy => ?_⟩
    obtain ⟨i, ei, k2⟩ := k2
    subst ei
    refine ⟨i, by simpa [RV] using hy, g, F2, μ2, ρ2, S2, r2, Ok.imp (intM_ok (Ok.bnd k2)) fun vj F3 μ3 ρ3 S3 H3 l3 p3 r3 k3 z hz => ?_⟩
    obtain ⟨j, ej, k3⟩ := k3
    subst ej
    refine ⟨j, by simpa [RV] using hz, ?_⟩
    obtain ⟨rv, h1, h2⟩ := app_ok k3
    obtain ⟨w, h3, h4⟩ := Option.bind_eq_some_iff.mp h1
    exact ⟨g, F3, μ3, ρ3, S3, σ, w, rv, r3, hx F3 μ3 ρ3 S3 H3 (l2.trans l3) (p2.trans p3) r3 w h3, h4, fun F' H' z l' r' rr => h2 F' H' l' r' z rr⟩
theorem pe_revM {k : Nat} {p1 p3 p4 : Pos} (ha : PE X a (tP X.K ga W c o1)) : PE X (.Subscript a (.Slice none none (some (.UnaryOp .USub (.Constant (.int 1) k p1) p3)) p4) pos) (tE X.K ga W (app [o1] revV c)) :=
  pe_imp (L2.pe_revL ha) fun σ H Q q => tP_imp (app1 q) fun x H1 h => by
    obtain ⟨g, F, μ, ρ, S, σ', w, rv, r, rb, hp, aft⟩ := h
    match w, hp, rb with
    | .lst vs, hp, rb =>
      obtain ⟨p, xs, rfl, q, t⟩ := rb_lst rb
      cases (Option.some.inj hp : RVal.fl vs.reverse = rv)
      exact ⟨p, xs, rfl, q, fun l hl => aft.lst r t.reverse hl⟩
end
end
end Lk
end

section
set_option Elab.async false
set_option linter.all false
set_option maxRecDepth 100000
set_option maxHeartbeats 400000
namespace Lk
open PySem PyProof.Rows
open L2 (V Hp HO upd upd_same upd_ne ne_of ne_of_none Key Rd SqL SqT VK XK WX TE TT TA TG TS PE PT PA PS PSs PG PW Cx Vis Loc Gl OpR CallR IxR SlR UnR Inv RelV Vals HOk ObjOk RelO)

section
variable {X : Cx} {ga : GA} {W : WX} {c : Caller}
theorem Ok.after {K : PySem.W.Frag} {g : Gh} {F : Hp} {μ : List Addr} {σ : L2.St} {ρ : Env} {S : Mem} {rv : RVal} {Q : VK} (h : Ok K ga W g σ F μ (Lk.ret rv ρ S) fun a F' μ' ρ' S' H' => ∀ x, RR K ga g F' μ' ρ' σ H' a x → Q x H') : After K ga g F μ ρ S σ rv Q :=
  fun F' H' z l r rr => h F' μ H' l (Pre.refl _) r z rr
theorem ok_fail {K : PySem.W.Frag} {α : Type} {g : Gh} {F : Hp} {μ : List Addr} {σ : L2.St} {ρ : Env} {S : Mem} {k : α → Hp → List Addr → Env → Mem → Hp → Prop} (h : Ok K ga W g σ F μ (fail ρ S) k) : False := h
theorem ok_if {K : PySem.W.Frag} {α : Type} {p : Prop} [Decidable p] {m : M α} {g : Gh} {F : Hp} {μ : List Addr} {σ : L2.St} {ρ : Env} {S : Mem} {k : α → Hp → List Addr → Env → Mem → Hp → Prop} (h : Ok K ga W g σ F μ ((if p then m else fail) ρ S) k) : p ∧ Ok K ga W g σ F μ (m ρ S) k := by
  by_cases hp : p
  · rw [if_pos hp] at h; exact ⟨hp, h⟩
  · rw [if_neg hp] at h; exact h.elim
section
variable {es : List PySem.Expr} {fs : List (Caller → M RVal)} {pos : Pos} {k : Nat}
theorem pe_tupM (h : PA X es (tA X.K ga W (argsM c fs))) : PE X (.Tuple es k pos) (tE X.K ga W (bnd (argsM c fs) fun vs => if vs.length ≤ cap then ret (.fz (.tup vs)) else fail)) :=
  pe_imp (L2.pe_tup h) fun σ H Q q => by
    obtain ⟨g, F, μ, ρ, S, r, q⟩ := q
    refine ⟨g, F, μ, ρ, S, r, Ok.imp (Ok.bnd q) fun vs F1 μ1 ρ1 S1 H1 l p1 r1 k xs hx => ?_⟩
    obtain ⟨hl, k⟩ := ok_if k
    exact ⟨by rw [hx.length, ← cap_line]; exact hl, fun p hp => k.after.tup r1 hx hp⟩
theorem pe_lstM (h : PA X es (tA X.K ga W (argsM c fs))) : PE X (.List es pos) (tE X.K ga W (bnd (argsM c fs) fun vs => if vs.length ≤ cap then ret (.fl vs) else fail)) :=
  pe_imp (L2.pe_lst h) fun σ H Q q => by
    obtain ⟨g, F, μ, ρ, S, r, q⟩ := q
    refine ⟨g, F, μ, ρ, S, r, Ok.imp (Ok.bnd q) fun vs F1 μ1 ρ1 S1 H1 l p1 r1 k xs hx => ?_⟩
    obtain ⟨hl, k⟩ := ok_if k
    exact ⟨by rw [hx.length, ← cap_line]; exact hl, fun p hp => k.after.lst r1 hx hp⟩
end
theorem Ok.push {K : PySem.W.Frag} {α : Type} {p : Addr} {o : HO} {g : Gh} {F : Hp} {μ : List Addr} {σ : L2.St} {out : Out α} {k : α → Hp → List Addr → Env → Mem → Hp → Prop} (d : ∀ q ∈ g.T, q.1 ≠ p) (h : Ok K ga W g σ F μ out k) : Ok K ga W { g with T := (p, o) :: g.T } σ F μ out k := by
  cases out with
  | ok a ρ S => exact fun F' μ' H' l p' r => h F' μ' H' l p' (r.pop d).1
  | exc c fs ρ S => exact fun F' μ' H' cls dd l p' r x => h F' μ' H' cls dd l p' (r.pop d).1 x
  | bad => exact h
/-- the pairs, each key a leaf -/
def PairsR (K : PySem.W.Frag) (ga : GA) (F : Hp) (μ : List Addr) (kvs : List (Val × Val)) (ps : List (V × V)) : Prop := ∃ ks, RVd K ga F μ kvs ks ∧ ps = ks.map fun kv => (L2.kV kv.1, kv.2)
theorem RVd.cons {K : PySem.W.Frag} {F : Hp} {μ : List Addr} {k v : Val} {r : List (Val × Val)} {q : Key} {y : V} {ys : List (Key × V)} (h1 : keyR k q) (h2 : RV K ga F μ v y) (h3 : RVd K ga F μ r ys) : RVd K ga F μ ((k, v) :: r) ((q, y) :: ys) := by
  simp only [RVd]
  exact ⟨q, y, ys, rfl, h1, h2, h3⟩
theorem RVd.nil {K : PySem.W.Frag} {F : Hp} {μ : List Addr} : RVd K ga F μ [] [] := by simp [RVd]
theorem RVd.cons_inv {K : PySem.W.Frag} {F : Hp} {μ : List Addr} {k v : Val} {r : List (Val × Val)} {xs : List (Key × V)} (h : RVd K ga F μ ((k, v) :: r) xs) : ∃ q y ys, xs = (q, y) :: ys ∧ keyR k q ∧ RV K ga F μ v y ∧ RVd K ga F μ r ys := by simpa only [RVd] using h
theorem RVd.append {K : PySem.W.Frag} {F : Hp} {μ : List Addr} : ∀ {vs ws : List (Val × Val)} {xs ys : List (Key × V)}, RVd K ga F μ vs xs → RVd K ga F μ ws ys → RVd K ga F μ (vs ++ ws) (xs ++ ys)
  | [], _, _, _, h, t => by
    simp only [RVd] at h
    rw [h]
    exact t
  | (_, _) :: _, _, _, _, h, t => by
    obtain ⟨q, y, ys, e, k, r, z⟩ := h.cons_inv
    rw [e]
    exact RVd.cons k r (RVd.append z t)
theorem rvd_any {K : PySem.W.Frag} {F : Hp} {μ : List Addr} {k : Val} {q : Key} (hk : keyR k q) : ∀ {kvs : List (Val × Val)} {ks : List (Key × V)}, RVd K ga F μ kvs ks → (kvs.any fun p => keq p.1 k) = ks.any fun kv => decide (kv.1 = q)
  | [], _, h => by simp only [RVd] at h; subst h; rfl
  | (k', v) :: r, _, h => by
    obtain ⟨q', y, ys, rfl, h1, _, h3⟩ := h.cons_inv
    rw [List.any_cons, List.any_cons, keyR_inj h1 hk, rvd_any hk h3]
theorem rvd_repl {K : PySem.W.Frag} {F : Hp} {μ : List Addr} {k v : Val} {q : Key} {y : V} (hk : keyR k q) (hv : RV K ga F μ v y) : ∀ {kvs : List (Val × Val)} {ks : List (Key × V)}, RVd K ga F μ kvs ks →
    RVd K ga F μ (kvs.map fun p => if keq p.1 k then (p.1, v) else p) (ks.map fun kv => if kv.1 = q then (kv.1, y) else kv)
  | [], _, h => by simp only [RVd] at h; subst h; exact RVd.nil
  | (k', v') :: r, _, h => by
    obtain ⟨q', y', ys, rfl, h1, h2, h3⟩ := h.cons_inv
    have e := keyR_inj h1 hk
    rw [List.map_cons, List.map_cons]
    by_cases hq : q' = q
    · rw [decide_eq_true hq] at e
      simp only [e, hq, if_true]
      rw [← hq]
      exact RVd.cons h1 hv (by simpa only [hq] using rvd_repl hk hv h3)
    · rw [decide_eq_false hq] at e
      simp only [e, hq, if_false]
      exact RVd.cons h1 h2 (rvd_repl hk hv h3)
theorem rvd_put {K : PySem.W.Frag} {F : Hp} {μ : List Addr} {k v : Val} {q : Key} {y : V} (hk : keyR k q) (hv : RV K ga F μ v y) {kvs : List (Val × Val)} {ks : List (Key × V)} (h : RVd K ga F μ kvs ks) : RVd K ga F μ (dput kvs k v) (L2.putK ks q y) := by
  unfold dput L2.putK
  rw [rvd_any hk h]
  split
  · exact rvd_repl hk hv h
  · exact h.append (RVd.cons hk hv RVd.nil)
theorem rvd_merge {K : PySem.W.Frag} {F : Hp} {μ : List Addr} : ∀ {more : List (Val × Val)} {ms : List (Key × V)} {kvs : List (Val × Val)} {ks : List (Key × V)}, RVd K ga F μ more ms → RVd K ga F μ kvs ks → RVd K ga F μ (merge kvs more) (L2.mergeK ks ms)
  | [], _, _, _, h, t => by simp only [RVd] at h; subst h; exact t
  | (k, v) :: r, _, kvs, ks, h, t => by
    obtain ⟨q, y, ys, rfl, h1, h2, h3⟩ := h.cons_inv
    show RVd K ga F μ (merge (dput kvs k v) r) (L2.mergeK (L2.putK ks q y) ys)
    exact rvd_merge h3 (rvd_put h1 h2 t)
theorem leaf_keyV {K : PySem.W.Frag} {F : Hp} {μ : List Addr} {k : Val} {x : V} (h : leaf k = true) (r : RV K ga F μ k x) : ∃ q, keyR k q ∧ x = L2.kV q := by
  cases k with
  | int i => exact ⟨.inl i, rfl, by simp only [RV] at r; exact r⟩
  | str i => exact ⟨.inr i, rfl, by simp only [RV] at r; exact r⟩
  | _ => cases h
/-- key and value readings -/
def trs (K : PySem.W.Frag) (ga : GA) (W : WX) (c : Caller) (l : List ((Caller → M RVal) × (Caller → M RVal))) : List (TE × TE) := l.map fun p => (tV K ga W (valM (p.1 c)), tV K ga W (valM (p.2 c)))
theorem pairs_ok {K : PySem.W.Frag} {σ : L2.St} : ∀ (l : List ((Caller → M RVal) × (Caller → M RVal))) (acc : List (Val × Val)) (as : List (Key × V)) (g : Gh) (F : Hp) (μ : List Addr) (ρ : Env) (S : Mem) (H : Hp) (Q : List (V × V) → Hp → Prop),
    Rel K ga g F μ ρ S σ H → RVd K ga F μ acc as →
    Ok K ga W g σ F μ (dispM c l acc ρ S) (fun kvs F' μ' ρ' S' H' => Rel K ga g F' μ' ρ' S' σ H' → ∀ ks ms, ks = as ++ ms → RVd K ga F' μ' kvs ks → ms.length = l.length → Q (ms.map fun kv => (L2.kV kv.1, kv.2)) H') →
    L2.tPairs (trs K ga W c l) σ H Q
  | [], acc, as, g, F, μ, ρ, S, H, Q, r, ra, h => by
    have k := Ok.ret h r
    exact k r as [] (by simp) ra rfl
  | (fk, fv) :: l, acc, as, g, F, μ, ρ, S, H, Q, r, ra, h => by
    show tV K ga W (valM (fk c)) σ H fun x H1 => tV K ga W (valM (fv c)) σ H1 fun y H2 => L2.tPairs (trs K ga W c l) σ H2 fun ps H3 => Q ((x, y) :: ps) H3
    refine ⟨g, F, μ, ρ, S, r, Ok.imp (Ok.bnd h) fun kv F1 μ1 ρ1 S1 H1 l1 p1 r1 k x hx => ?_⟩
    refine ⟨g, F1, μ1, ρ1, S1, r1, Ok.imp (Ok.bnd k) fun v F2 μ2 ρ2 S2 H2 l2 p2 r2 k2 y hy => ?_⟩
    obtain ⟨hl, k2⟩ := ok_if k2
    obtain ⟨q, hq, ex⟩ := leaf_keyV hl hx
    have ra2 : RVd K ga F2 μ2 (acc ++ [(kv, v)]) (as ++ [(q, y)]) := RVd.append (ra.mono (l1.trans l2) (p1.trans p2)) (RVd.cons hq hy RVd.nil)
    refine pairs_ok l _ _ g F2 μ2 ρ2 S2 H2 _ r2 ra2 (Ok.imp k2 fun kvs F3 μ3 ρ3 S3 H3 _ _ r3 k3 => fun _ ks ms e rk hm => ?_)
    subst ex
    exact k3 r3 ks ((q, y) :: ms) (by rw [e]; simp) rk (by simp [hm])
theorem pe_dispM {pos : Pos} {keys : List (Option PySem.Expr)} {values : List PySem.Expr} {l : List ((Caller → M RVal) × (Caller → M RVal))} (h : L2.PPs X pos keys values (trs X.K ga W c l)) (hall : keys.all (·.isSome) = true) (hl : keys.length = values.length) (h0 : keys ≠ []) (h15 : keys.length ≤ 15) (hk : l.length ≤ 15) :
    PE X (.Dict keys values pos) (tE X.K ga W (bnd (dispM c l []) fun kvs => ret (.fd (merge [] kvs)))) := pe_imp (L2.pe_disp h hall hl h0 h15) fun σ H Q q => by
  obtain ⟨g, F, μ, ρ, S, r, q⟩ := q
  intro p hp
  have fr := r.free_new hp
  have r1 : Rel X.K ga { g with T := (p, .dK []) :: g.T } F μ ρ S σ (upd H p (.dK [])) := (r.alloc hp).push (let ⟨f1, f2, f3⟩ := fr; ⟨f1, f2, f3⟩) upd_same
  have d : ∀ q ∈ g.T, q.1 ≠ p := fr.2.2
  refine pairs_ok l [] [] _ F μ ρ S _ _ r1 RVd.nil (Ok.imp (Ok.push d (Ok.bnd q)) fun kvs F1 μ1 ρ1 S1 H1 l1 p1 r2 k => fun _ ks ms e rk hm => ?_)
  obtain ⟨r3, e3, fr3⟩ := r2.pop d
  rw [List.nil_append] at e
  subst e
  refine ⟨e3, ks, rfl, by rw [hm]; exact hk, ?_⟩
  have aft := k.after
  exact aft F1 _ _ (Le.refl _) (r3.other fr3) ⟨p, _, rfl, upd_same, rvd_merge rk RVd.nil, fr3⟩
theorem pe_dict0 {pos : Pos} : PE X (.Dict [] [] pos) (tE X.K ga W (bnd (dispM c [] []) fun kvs => ret (.fd (merge [] kvs)))) := pe_imp L2.pe_dnewK fun σ H Q q => by
  obtain ⟨g, F, μ, ρ, S, r, q⟩ := q
  intro p hp
  have k := Ok.bnd q
  have aft := (Ok.ret k r).after
  exact aft.dic r RVd.nil hp
end
end Lk
end

section
set_option Elab.async false
set_option linter.all false
set_option maxRecDepth 100000
set_option maxHeartbeats 400000
namespace Lk
open PySem PyProof.Rows
open L2 (V Hp HO upd upd_same upd_ne ne_of ne_of_none Key Rd SqL SqT VK XK WX TE TT TA TG TS PE PT PA PS PSs PG PW Cx Vis Loc Gl OpR CallR IxR SlR UnR Inv RelV Vals HOk ObjOk RelO FnOk Room)

section
variable {X : Cx} {ga : GA} {W : WX} {c : Caller}
theorem bne_and : (BoolOp.And == BoolOp.Or) = false := by decide
theorem beq_or : (BoolOp.Or == BoolOp.Or) = true := by decide
theorem boolM_cons (op : BoolOp) (f f2 : Caller → M RVal) (r : List (Caller → M RVal)) : boolM op c (f :: f2 :: r) = bnd (valM (f c)) fun v => bnd (truAt v) fun b => if b == (op == .Or) then ret (.fz v) else boolM op c (f2 :: r) := by
  funext ρ S
  show bnd (valM (f c)) (fun v => fun ρ S => match truV (view S v) with
    | none => .bad
    | some b => if b == (op == .Or) then .ok (.fz v) ρ S else boolM op c (f2 :: r) ρ S) ρ S = _
  congr 1
  funext v ρ S
  unfold bnd truAt
  cases truV (view S v) with
  | none => rfl
  | some b =>
    show (if b == (op == .Or) then Out.ok (RVal.fz v) ρ S else boolM op c (f2 :: r) ρ S) = (if b == (op == .Or) then ret (.fz v) else boolM op c (f2 :: r)) ρ S
    split <;> rfl
theorem pe_boolM {op : BoolOp} {pos : Pos} : ∀ {es : List PySem.Expr} {fs : List (Caller → M RVal)}, Paired (fun e f => PE X e (tE X.K ga W (f c))) es fs → es ≠ [] → PE X (.BoolOp op es pos) (tE X.K ga W (boolM op c fs))
  | _, _, .nil, h => absurd rfl h
  | _, _, .cons h .nil, _ => L2.pe_one h
  | _, _, .cons (a := e) (b := f) h (.cons (a := e2) (b := f2) (l₁ := es) (l₂ := fs) h2 t), _ => by
    have ih := pe_boolM (op := op) (pos := pos) (.cons h2 t) (by simp)
    have hv := pe_val h
    cases op with
    | And =>
      refine pe_imp (L2.pe_andT hv ih) fun σ H Q q => ?_
      rw [boolM_cons] at q
      obtain ⟨g, F, μ, ρ, S, r, q⟩ := q
      refine ⟨g, F, μ, ρ, S, r, Ok.imp (Ok.bnd q) fun v F1 μ1 ρ1 S1 H1 l1 p1 r1 k x hx => ?_⟩
      obtain ⟨b, h1, k⟩ := truAt_ok (Ok.bnd k) r1 hx
      refine ⟨b, h1, ?_⟩
      rw [bne_and] at k
      cases b with
      | true => exact ⟨g, F1, μ1, ρ1, S1, r1, k⟩
      | false => exact Ok.ret k r1 x hx
    | Or =>
      refine pe_imp (L2.pe_orT hv ih) fun σ H Q q => ?_
      rw [boolM_cons] at q
      obtain ⟨g, F, μ, ρ, S, r, q⟩ := q
      refine ⟨g, F, μ, ρ, S, r, Ok.imp (Ok.bnd q) fun v F1 μ1 ρ1 S1 H1 l1 p1 r1 k x hx => ?_⟩
      obtain ⟨b, h1, k⟩ := truAt_ok (Ok.bnd k) r1 hx
      refine ⟨b, h1, ?_⟩
      rw [beq_or] at k
      cases b with
      | true => exact Ok.ret k r1 x hx
      | false => exact ⟨g, F1, μ1, ρ1, S1, r1, k⟩
theorem pw_pt {e : PySem.Expr} {t : TT} (h : PW X e t) : PT X e t := ⟨fun pins s σ H Q I q => h.run _ pins s σ H Q I q⟩
theorem pw_imp {e : PySem.Expr} {t t' : TT} (h : PW X e t) (f : ∀ σ H Q, t' σ H Q → t σ H Q) : PW X e t' := ⟨fun wh pins s σ H Q I q => h.run wh pins s σ H Q I (f σ H Q q)⟩
theorem pw_boolT {op : BoolOp} {pos : Pos} : ∀ {es : List PySem.Expr} {fs : List (Caller → M Bool)}, Paired (fun e f => PT X e (tB X.K ga W (f c))) es fs → es ≠ [] → PW X (.BoolOp op es pos) (tB X.K ga W (andT op c fs))
  | _, _, .nil, h => absurd rfl h
  | _, _, .cons h .nil, _ => by
    cases op with
    | And => exact L2.pw_and1 h
    | Or => exact L2.pw_or1 h
  | _, _, .cons (a := e) (b := f) h (.cons (a := e2) (b := f2) (l₁ := es) (l₂ := fs) h2 t), _ => by
    have ih := pw_boolT (op := op) (pos := pos) (.cons h2 t) (by simp)
    have et : andT op c (f :: f2 :: fs) = bnd (f c) fun b => if b == (op == .Or) then ret b else andT op c (f2 :: fs) := rfl
    rw [et]
    cases op with
    | And =>
      refine pw_imp (L2.pw_and h ih) fun σ H Q q => ?_
      obtain ⟨g, F, μ, ρ, S, r, q⟩ := q
      refine ⟨g, F, μ, ρ, S, r, Ok.imp (Ok.bnd q) fun b F1 μ1 ρ1 S1 H1 l1 p1 r1 k x hx => ?_⟩
      subst hx
      rw [bne_and] at k
      cases x with
      | true => exact ⟨g, F1, μ1, ρ1, S1, r1, k⟩
      | false => exact Ok.ret k r1 false rfl
    | Or =>
      refine pw_imp (L2.pw_or h ih) fun σ H Q q => ?_
      obtain ⟨g, F, μ, ρ, S, r, q⟩ := q
      refine ⟨g, F, μ, ρ, S, r, Ok.imp (Ok.bnd q) fun b F1 μ1 ρ1 S1 H1 l1 p1 r1 k x hx => ?_⟩
      subst hx
      rw [beq_or] at k
      cases x with
      | true => exact Ok.ret k r1 true rfl
      | false => exact ⟨g, F1, μ1, ρ1, S1, r1, k⟩
theorem pt_notM {e : PySem.Expr} {f : Caller → M Bool} {pos : Pos} (h : PT X e (tB X.K ga W (f c))) : PT X (.UnaryOp .Not e pos) (tB X.K ga W (bnd (f c) fun b => ret (!b))) := pt_imp (L2.pt_not h) fun σ H Q q => by
  obtain ⟨g, F, μ, ρ, S, r, q⟩ := q
  refine ⟨g, F, μ, ρ, S, r, Ok.imp (Ok.bnd q) fun b F1 μ1 ρ1 S1 H1 l1 p1 r1 k x hx => ?_⟩
  subst hx
  exact Ok.ret k r1 _ rfl
theorem pe_ifM {t a b : PySem.Expr} {ft : Caller → M Bool} {fa fb : Caller → M RVal} {pos : Pos} (ht : PT X t (tB X.K ga W (ft c))) (ha : PE X a (tE X.K ga W (fa c))) (hb : PE X b (tE X.K ga W (fb c))) :
    PE X (.IfExp t a b pos) (tE X.K ga W (bnd (ft c) fun x => if x then fa c else fb c)) := pe_imp (L2.pe_ifExp ht ha hb) fun σ H Q q => by
  obtain ⟨g, F, μ, ρ, S, r, q⟩ := q
  refine ⟨g, F, μ, ρ, S, r, Ok.imp (Ok.bnd q) fun d F1 μ1 ρ1 S1 H1 l1 p1 r1 k x hx => ?_⟩
  subst hx
  cases x with
  | true => exact ⟨g, F1, μ1, ρ1, S1, r1, k⟩
  | false => exact ⟨g, F1, μ1, ρ1, S1, r1, k⟩
/-- what a def promises -/
def spC (K : PySem.W.Frag) (ga : GA) (c : Caller) (i n : Nat) : L2.Sp := fun vs H Q E => vs.length = n ∧ ∃ F μ S args, Rel0 K ga F μ S H ∧ RVs K ga F μ args vs ∧ match c i args S with
  | .ok r S' => ∀ F' μ' H' x, Rel0 K ga F' μ' S' H' → Grow F μ H F' μ' H' → RR0 K ga F' μ' H' H r x → Q x H'
  | .exc k fs S' => ∀ F' μ' H' cls d, Rel0 K ga F' μ' S' H' → Grow F μ H F' μ' H' → XR K ga F' μ' k fs cls d → E cls d H'
  | .bad => False
theorem callM_sp {K : PySem.W.Frag} {g : Gh} {F : Hp} {μ : List Addr} {ρ : Env} {S : Mem} {σ : L2.St} {H : Hp} {i np : Nat} {args : List Val} {xs : List V} {Q : VK} (h : Ok K ga W g σ F μ (callM c i np args ρ S) fun a F' μ' ρ' S' H' => ∀ x, RR K ga g F' μ' ρ' σ H' a x → Q x H')
    (r : Rel K ga g F μ ρ S σ H) (ra : RVs K ga F μ args xs) : spC K ga c i np xs H Q fun cls d H => W cls d σ H := by
  unfold callM at h
  by_cases hl : args.length = np
  · rw [if_pos hl] at h
    refine ⟨by rw [ra.length, hl], F, μ, S, args, r.r0, ra, ?_⟩
    cases e : c i args S with
    | ok rv S' =>
      rw [e] at h
      intro F' μ' H' x r0 G rr
      have r' := r.call r0 G
      exact h F' μ' H' G.le G.pre r' x (RR.of_call r r' rr)
    | exc k fs S' =>
      rw [e] at h
      intro F' μ' H' cls d r0 G xr
      exact h F' μ' H' cls d G.le G.pre (r.call r0 G) xr
    | bad => rw [e] at h; exact h
  · rw [if_neg hl] at h; exact h.elim
theorem passesAt_of (tk : L2.Takes X W) (σ : L2.St) : L2.PassesAt (L2.CX X.prog X.w) X σ (fun cls d H => W cls d σ H) := fun pins H s e s' I cx => tk e s' (L2.XE.of_call I (fun _ _ _ h => h) cx)
variable {k : Nat} {f : Addr} {fd : FuncData} {ps : List Str} {x : Str} {dvs : List V} {ds : List Value}
theorem pe_callM {i np : Nat} {dfl : List Val} {es : List PySem.Expr} {fs : List (Caller → M RVal)} {p pos : Pos} (tk : L2.Takes X W) (F : FnOk X.prog X.w X.K X.mg X.base (L2.CX X.prog X.w) k f fd ps (spC X.K ga c i np)) (hr : Room k X.A) (hg : Gl X x) (hm : X.mg x = some (.ref f)) (hk : PySem.W.keepIn X.K (.ref f) = true) (hb : L2.Binds X.K fd ps ds) (hd : Vals dvs ds)
    (hdv : ∀ F μ, RVs X.K ga F μ dfl dvs) (hdb : (x == ("__debug__" : Str)) = false) (ha : PA X es (tA X.K ga W (argsM c fs))) (hs : ∀ e ∈ es, isStar e = false)
    (hne : es ≠ []) : PE X (.Call (.Name x p) es [] pos) (tE X.K ga W (bnd (argsM c fs) fun vs => callM c i np (vs ++ dfl))) := by
  cases es with
  | cons e r =>
    have he := star_ok (X := X) (es := r) (hs e (by simp))
    have hpl : (backTo pos (starEach r X.env)).any (·.1) = false := by rw [back_any]; exact star_all fun y hy => hs y (by simp [hy])
    refine pe_imp (L2.pe_callSD F hr hg hm hk hb hd (fun σ => passesAt_of tk σ) ha hdb he hpl) fun σ H Q q => ?_
    obtain ⟨g, F, μ, ρ, S, r, q⟩ := q
    refine ⟨g, F, μ, ρ, S, r, Ok.imp (Ok.bnd q) fun vs F1 μ1 ρ1 S1 H1 l1 p1 r1 k xs hx => ?_⟩
    exact callM_sp k r1 (hx.append (hdv _ _))
  | nil => exact absurd rfl hne
theorem pe_callM0 {i np : Nat} {dfl : List Val} {p pos : Pos} (tk : L2.Takes X W) (F : FnOk X.prog X.w X.K X.mg X.base (L2.CX X.prog X.w) k f fd ps (spC X.K ga c i np)) (hr : Room k X.A) (hg : Gl X x) (hm : X.mg x = some (.ref f)) (hk : PySem.W.keepIn X.K (.ref f) = true) (hb : L2.Binds X.K fd ps ds) (hd : Vals dvs ds)
    (hdv : ∀ F μ, RVs X.K ga F μ dfl dvs) (hdb : (x == ("__debug__" : Str)) = false) :
    PE X (.Call (.Name x p) [] [] pos) (tE X.K ga W (bnd (argsM c []) fun vs => callM c i np (vs ++ dfl))) := by
  refine ⟨fun pins s σ H Q I q => ?_⟩
  refine wpAny_Call_Name_kw (L2.ld_glob I hg hm ?_ hdb)
  refine PySem.W.callWith_K0 I.kIn hk (L2.run_fnSD (E := fun σ cls d H => W cls d σ H) (us := []) F hr hb hd (passesAt_of tk σ) I .nil ?_)
  obtain ⟨g, F2, μ, ρ, S, r, q⟩ := q
  have k := Ok.ret (a := []) (Ok.bnd q) r
  exact callM_sp k r (hdv _ _)
end
end Lk
end

section
set_option Elab.async false
set_option linter.all false
set_option maxRecDepth 100000
set_option maxHeartbeats 400000
namespace Lk
open PySem PyProof.Rows
open L2 (V Hp HO upd upd_same upd_ne ne_of ne_of_none Key Rd SqL SqT VK XK WX TE TT TA TG TGs TS TI It PE PT PA PS PSs PG PGs PI PTs PW Cx Vis Loc Gl OpR CallR IxR SlR UnR Inv RelV Vals HOk ObjOk RelO FnOk Room wipe)

def Outside (is : List Nat) (σ σ' : L2.St) : Prop := σ'.length = σ.length ∧ ∀ i, i ∉ is → σ'[i]? = σ[i]?
theorem Outside.refl {is : List Nat} {σ : L2.St} : Outside is σ σ := ⟨rfl, fun _ _ => rfl⟩
theorem Outside.trans {is js : List Nat} {σ σ' σ'' : L2.St} (a : Outside is σ σ') (b : Outside js σ' σ'') : Outside (is ++ js) σ σ'' :=
  ⟨b.1.trans a.1, fun i h => (b.2 i fun z => h (by simp [z])).trans (a.2 i fun z => h (by simp [z]))⟩
section
variable (K : PySem.W.Frag) (ga : GA)
def tG (t : Tgt) : TG := fun v σ H Q => ∃ g F μ ρ S r, Rel K ga g F μ ρ S σ H ∧ RR K ga g F μ ρ σ H r v ∧ match asg t r ρ S with
  | .ok _ ρ' S' => ∀ σ', Rel K ga g F μ ρ' S' σ' H → Outside (tgtIx t) σ σ' → Q σ' H
  | _ => False
def tGs (ts : List Tgt) : TGs := fun vs σ H Q => ∃ g F μ ρ S ws, Rel K ga g F μ ρ S σ H ∧ RVs K ga F μ ws vs ∧ match asgs ts ws ρ S with
  | .ok _ ρ' S' => ∀ σ', Rel K ga g F μ ρ' S' σ' H → Outside (tgtIxs ts) σ σ' → Q σ' H
  | _ => False
end
theorem pg_imp {X : Cx} {e : PySem.Expr} {t t' : TG} (h : PG X e t) (f : ∀ v σ H Q, t' v σ H Q → t v σ H Q) : PG X e t' := ⟨fun pins s σ H v u Q I r q => h.run pins s σ H v u Q I r (f v σ H Q q)⟩
theorem pgs_imp {X : Cx} {e : List PySem.Expr} {t t' : TGs} (h : PGs X e t) (f : ∀ v σ H Q, t' v σ H Q → t v σ H Q) : PGs X e t' := ⟨fun pins s σ H v u Q I r q => h.run pins s σ H v u Q I r (f v σ H Q q)⟩
theorem pi_imp {X : Cx} {tg e : PySem.Expr} {t t' : TI} (h : PI X tg e t) (f : ∀ σ H Q, t' σ H Q → t σ H Q) : PI X tg e t' := ⟨fun pins s σ H Q I q => h.run pins s σ H Q I (f σ H Q q)⟩
section
variable {X : Cx} {ga : GA} {W : WX} {c : Caller}
theorem pg_nameM {i : Nat} {x : Str} {pos : Pos} (hN : X.N.Nodup) (hi : X.N[i]? = some x) (hx : Loc X.env.scope x) (hf : X.fn x = true ∨ X.env.scope.names.lookup x = some .local) : PG X (.Name x pos) (tG X.K ga (.nm i)) := pg_imp (L2.pg_name hN hi hx hf) fun v σ H Q q => by
  obtain ⟨g, F, μ, ρ, S, r, rel, rr, q⟩ := q
  simp only [asg, setS] at q
  by_cases hl : i < ρ.length
  · rw [if_pos hl] at q
    exact q _ (rel.setR i rr) ⟨List.length_set, fun j hj => List.getElem?_set_ne fun z => hj (by simp [tgtIx, z])⟩
  · rw [if_neg hl] at q
    exact q.elim
theorem asgE_ok {e : PySem.Expr} {es : List PySem.Expr} (h : isStar e = false) : assignEach (e :: es) X.env = (false, assign e X.env) :: assignEach es X.env := by
  cases e <;> first | rfl | cases h
theorem asgE_len : ∀ {es : List PySem.Expr}, (assignEach es X.env).length = es.length
  | [] => rfl
  | e :: es => by
    have ih := asgE_len (es := es)
    cases e <;> (show (_ :: assignEach es X.env).length = _; rw [List.length_cons, List.length_cons, ih])
theorem asgE_star : ∀ {es : List PySem.Expr}, (∀ e ∈ es, isStar e = false) → (assignEach es X.env).findIdx? (·.1) = none
  | [], _ => rfl
  | e :: es, h => by
    rw [asgE_ok (h e (by simp)), List.findIdx?_cons, asgE_star fun x hx => h x (by simp [hx])]
    rfl
theorem pgs_nilM : PGs X [] (tGs X.K ga []) := pgs_imp L2.pgs_nil fun v σ H Q q => by
  obtain ⟨g, F, μ, ρ, S, ws, rel, rr, q⟩ := q
  cases ws with
  | nil =>
    simp only [RVs] at rr
    exact ⟨rr, q σ rel Outside.refl⟩
  | cons _ _ => exact q.elim
theorem pgs_consM {e : PySem.Expr} {es : List PySem.Expr} {t : Tgt} {ts : List Tgt} (h1 : PG X e (tG X.K ga t)) (h2 : PGs X es (tGs X.K ga ts)) (hs : isStar e = false) : PGs X (e :: es) (tGs X.K ga (t :: ts)) :=
  pgs_imp (L2.pgs_cons h1 h2 (by rw [asgE_ok hs]; rfl)) fun v σ H Q q => by
  obtain ⟨g, F, μ, ρ, S, ws, rel, rr, q⟩ := q
  cases ws with
  | nil => exact q.elim
  | cons w ws =>
    obtain ⟨y, ys, rfl, h3, h4⟩ := rr.cons_inv
    refine ⟨y, ys, rfl, g, F, μ, ρ, S, .fz w, rel, h3, ?_⟩
    simp only [asgs, bnd] at q
    cases e1 : asg t (.fz w) ρ S with
    | ok u ρ1 S1 =>
      rw [e1] at q
      intro σ1 r1 o1
      refine ⟨g, F, μ, ρ1, S1, ws, r1, h4, ?_⟩
      simp only at q
      cases e2 : asgs ts ws ρ1 S1 with
      | ok u ρ2 S2 =>
        rw [e2] at q
        exact fun σ2 r2 o2 => q σ2 r2 (by simp only [tgtIxs]; exact o1.trans o2)
      | exc _ _ _ _ => rw [e2] at q; exact q.elim
      | bad => rw [e2] at q; exact q.elim
    | exc _ _ _ _ => rw [e1] at q; exact q.elim
    | bad => rw [e1] at q; exact q.elim
theorem pg_tupM {es : List PySem.Expr} {ts : List Tgt} {k : Nat} {pos : Pos} (hc : X.calm = true) (h : PGs X es (tGs X.K ga ts)) (hs : ∀ e ∈ es, isStar e = false) (hl : es.length = ts.length) : PG X (.Tuple es k pos) (tG X.K ga (.tp ts)) :=
  pg_imp (L2.pg_tup (n := es.length) hc h asgE_len (asgE_star hs)) fun v σ H Q q => by
  obtain ⟨g, F, μ, ρ, S, r, rel, rr, q⟩ := q
  cases r with
  | fz w =>
    cases w with
    | tup vs =>
      have rr' : RV X.K ga F μ (.tup vs) v := rr
      simp only [RV] at rr'
      obtain ⟨a, xs, rfl, sq, t⟩ := rr'
      simp only [asg] at q
      by_cases hl2 : ts.length = vs.length
      · rw [if_pos hl2] at q
        exact ⟨a, xs, rfl, rel.r0.sub.sqT sq, by rw [t.length, hl, hl2], g, F, μ, ρ, S, vs, rel, t, q⟩
      · rw [if_neg hl2] at q
        exact q.elim
    | _ => exact False.elim q
  | fl _ => exact False.elim q
  | fd _ => exact False.elim q
structure WalksV (K : PySem.W.Frag) (ga : GA) (F : Hp) (μ : List Addr) (J : It) (xs : List Val) (G : Hp → Prop) (Y : Nat → Hp → V → Hp → Prop) : Prop where
  walk : L2.Walk J xs.length G Y
  good : ∀ g F' μ' ρ S σ H, Le F F' → Pre μ μ' → Rel K ga g F' μ' ρ S σ H → G H
  yields : ∀ i H x H' g F' μ' ρ S σ, Y i H x H' → Le F F' → Pre μ μ' → Rel K ga g F' μ' ρ S σ H → ∃ F'' v, Le F' F'' ∧ Rel K ga g F'' μ' ρ S σ H' ∧ xs[i]? = some v ∧ RV K ga F'' μ' v x
  few : xs.length ≤ cap
def tI (K : PySem.W.Frag) (ga : GA) (W : WX) (m : M (List Val)) : TI := fun σ H R => ∃ g F μ ρ S, Rel K ga g F μ ρ S σ H ∧ Ok K ga W g σ F μ (m ρ S) fun xs F' μ' _ _ H' => ∀ J G Y, WalksV K ga F' μ' J xs G Y → R J H'
theorem rvs_at' {K : PySem.W.Frag} {F : Hp} {μ : List Addr} : ∀ {vs : List Val} {xs : List V} {i : Nat} {x : V}, RVs K ga F μ vs xs → xs[i]? = some x → ∃ v, vs[i]? = some v ∧ RV K ga F μ v x
  | [], _, _, _, h, e => by simp only [RVs] at h; subst h; simp at e
  | v :: vs, _, 0, x, h, e => by
    obtain ⟨y, ys, rfl, h1, _⟩ := h.cons_inv
    cases e
    exact ⟨v, rfl, h1⟩
  | v :: vs, _, i + 1, x, h, e => by
    obtain ⟨y, ys, rfl, _, h2⟩ := h.cons_inv
    obtain ⟨w, h3, h4⟩ := rvs_at' (i := i) h2 (by simpa using e)
    exact ⟨w, by simpa using h3, h4⟩
theorem walksL {K : PySem.W.Frag} {F : Hp} {μ : List Addr} {vs : List Val} {xs : List V} {a : Addr} (hq : SqL K F a xs) (t : RVs K ga F μ vs xs) (hf : vs.length ≤ cap) : WalksV K ga F μ (L2.Itl K a) vs (fun H => SqL K H a xs) (L2.YAt xs) :=
  ⟨by rw [← t.length]; exact L2.walk_list, fun g F' μ' ρ S σ H l _ r => (l.trans r.r0.sub).sqL hq, fun i H x H' g F' μ' ρ S σ y l p r => by
    obtain ⟨rfl, y⟩ := y
    obtain ⟨v, h1, h2⟩ := rvs_at' t y
    exact ⟨F', v, Le.refl _, r, h1, h2.mono l p⟩, hf⟩
theorem walksT {K : PySem.W.Frag} {F : Hp} {μ : List Addr} {vs : List Val} {xs : List V} {a : Addr} (hq : SqT K F a xs) (t : RVs K ga F μ vs xs) (hf : vs.length ≤ cap) : WalksV K ga F μ (L2.Itt K a) vs (fun H => SqT K H a xs) (L2.YAt xs) :=
  ⟨by rw [← t.length]; exact L2.walk_tup, fun g F' μ' ρ S σ H l _ r => (l.trans r.r0.sub).sqT hq, fun i H x H' g F' μ' ρ S σ y l p r => by
    obtain ⟨rfl, y⟩ := y
    obtain ⟨v, h1, h2⟩ := rvs_at' t y
    exact ⟨F', v, Le.refl _, r, h1, h2.mono l p⟩, hf⟩
/-- a list or a tuple, by its value -/
theorem pi_seqM {tg e : PySem.Expr} {m : M RVal} (hl : PE X e (tE X.K ga W m)) : PI X tg e (tI X.K ga W (bnd (valM m) fun v => opt (itemsV v))) := by
  have hv := pe_val hl
  refine ⟨fun pins s σ H R I h => ?_⟩
  obtain ⟨g, F, μ, ρ, S, r, h⟩ := h
  refine wpAny_mono (hv.run pins s σ H (fun x H1 => ∃ g F' μ' ρ' S' v, Rel X.K ga g F' μ' ρ' S' σ H1 ∧ RV X.K ga F' μ' v x ∧ Ok X.K ga W g σ F' μ' (opt (itemsV v) ρ' S') fun xs F' μ' _ _ H' => ∀ J G Y, WalksV X.K ga F' μ' J xs G Y → R J H') I ⟨g, F, μ, ρ, S, r, Ok.imp (Ok.bnd h) fun v F1 μ1 ρ1 S1 H1 l1 p1 r1 k x hx => ⟨g, F1, μ1, ρ1, S1, v, r1, hx, k⟩⟩) (fun v s1 hq => ?_) fun _ _ z => z
  obtain ⟨x, H1, I1, r1, g, F1, μ1, ρ1, S1, w, rel, rv, k⟩ := hq
  cases w with
  | lst vs =>
    simp only [RV] at rv
    obtain ⟨a, xs, rfl, hq, t⟩ := rv
    cases r1
    obtain ⟨its, rv, p, hz⟩ := I1.list (rel.r0.sub.sqL hq)
    have hf : vs.length ≤ cap := by rw [← t.length, cap_line]; exact hz
    refine wpAny_pyIter_list p.isList ?_
    refine ⟨s1.heap.objs.size, [s1.heap.objs.size], _, _, H1, rfl, I1.kept (t' := s1.toks) fun b o e => Heap.get?_push_of_some _ e, L2.turn_list a _, ⟨_, Heap.get?_push_size _ rfl, rfl, rfl⟩, fun b hb => ?_, Ok.ret k rel _ _ _ (walksL hq t hf)⟩
    have e : b = s1.heap.objs.size := by simpa using hb
    subst e
    exact I1.fpOk (Nat.le_refl _) (I1.hok.fresh (Nat.le_refl _))
  | tup vs =>
    simp only [RV] at rv
    obtain ⟨a, xs, rfl, hq, t⟩ := rv
    cases r1
    obtain ⟨its, rv, p, hz⟩ := I1.tuple (rel.r0.sub.sqT hq)
    have hf : vs.length ≤ cap := by rw [← t.length, cap_line]; exact hz
    refine wpAny_pyIter_tuple (show s1.heap.IsTuple a its.toArray from p) ?_
    refine ⟨s1.heap.objs.size, [s1.heap.objs.size], _, _, H1, rfl, I1.kept (t' := s1.toks) fun b o e => Heap.get?_push_of_some _ e, L2.turn_tuple a _, ⟨_, Heap.get?_push_size _ rfl, rfl, rfl⟩, fun b hb => ?_, Ok.ret k rel _ _ _ (walksT hq t hf)⟩
    have e : b = s1.heap.objs.size := by simpa using hb
    subst e
    exact I1.fpOk (Nat.le_refl _) (I1.hok.fresh (Nat.le_refl _))
  | _ => exact False.elim k
theorem walksR {K : PySem.W.Frag} {F : Hp} {μ : List Addr} {lo : Int} {n : Nat} (hf : n ≤ cap) : WalksV K ga F μ (L2.Itr lo n) (rangeL lo n) (fun _ => True) (fun i H x H' => i < n ∧ L2.YFn (fun i => .int (lo + i)) i H x H') := by
  have hl : (rangeL lo n).length = n := by simp [rangeL]
  refine ⟨?_, fun _ _ _ _ _ _ _ _ _ _ => trivial, fun i H x H' g F' μ' ρ S σ y l p r => ?_, by rw [hl]; exact hf⟩
  · rw [hl]
    exact ⟨fun _ _ hi _ => hi, fun _ _ => Nat.le_refl _, fun _ _ _ _ hi _ y => ⟨hi, y⟩⟩
  · obtain ⟨hi, rfl, rfl⟩ := y
    refine ⟨F', .int (lo + i), Le.refl _, r, ?_, by simp [RV]⟩
    simp [rangeL, List.getElem?_map, List.getElem?_range hi]
theorem small62_of {i : Int} (h : small62 i = true) : -(2 ^ 62) ≤ i ∧ i < 2 ^ 62 := by
  simp only [small62, Bool.and_eq_true, decide_eq_true_eq] at h
  exact h
theorem posts_len : ∀ {os : List Opd} {vs : List (Option Val)} {ρ : Env} {S : Mem} {ws : List Val}, posts os vs ρ S = some ws → ws.length = os.length
  | [], [], _, _, _, h => by cases h; rfl
  | [], _ :: _, _, _, _, h => by cases h
  | _ :: _, [], _, _, _, h => by cases h
  | o :: os, v :: vs, ρ, S, ws, h => by
    have h' : ((o.post v ρ S).bind fun x => (posts os vs ρ S).map (x :: ·)) = some ws := h
    obtain ⟨w, _, h2⟩ := Option.bind_eq_some_iff.mp h'
    obtain ⟨ws', h3, h4⟩ := Option.map_eq_some_iff.mp h2
    subst h4
    rw [List.length_cons, List.length_cons, posts_len h3]
theorem app_range {K : PySem.W.Frag} {os : List Opd} {σ : L2.St} {H : Hp} {R : It → Hp → Prop} (q : tI K ga W (app os rangeV c) σ H R) :
    tPs K ga W c os σ H fun vs H1 => ∃ F μ ws xs, ws.length = os.length ∧ RBs K ga F μ H1 ws vs ∧ rangeV ws = some xs ∧ ∀ J G Y, WalksV K ga F μ J xs G Y → R J H1 := by
  obtain ⟨g, F, μ, ρ, S, r, q⟩ := q
  refine ⟨g, F, μ, ρ, S, r, Ok.imp (Ok.bnd q) fun vs F1 μ1 ρ1 S1 H1 l p1 r1 k xs hx => ?_⟩
  obtain ⟨rv, h1, h2⟩ := app_ok k
  obtain ⟨ws, h3, h4⟩ := Option.bind_eq_some_iff.mp h1
  exact ⟨F1, μ1, ws, rv, posts_len h3, hx F1 μ1 ρ1 S1 H1 (Le.refl _) (Pre.refl _) r1 ws h3, h4, h2 F1 H1 (Le.refl _) r1⟩
theorem pi_range1M {tg a : PySem.Expr} {o : Opd} {p pos : Pos} (hg : Gl X "range") (hm : X.mg "range" = none) (ha : PA X [a] (tPs X.K ga W c [o])) (hs : isStar a = false) : PI X tg (.Call (.Name "range" p) [a] [] pos) (tI X.K ga W (app [o] rangeV c)) := by
  have hst : starEach [a] X.env = [(false, eval a X.env)] := star_ok hs
  refine pi_imp (L2.pi_range1 hg hm ha hst) fun σ H R q => ?_
  obtain ⟨g, F, μ, ρ, S, r, q⟩ := app_range q
  refine ⟨g, F, μ, ρ, S, r, Ok.imp q fun vs F1 μ1 ρ1 S1 H1 l p1 r1 k xs hx => ?_⟩
  obtain ⟨F2, μ2, ws, ys, h0, h1, h2, h3⟩ := k xs hx
  cases ws with
  | nil => cases h0
  | cons w ws =>
    cases ws with
    | cons _ _ => cases h0
    | nil =>
      obtain ⟨y, rfl, q⟩ := rvs_one h1
      cases w with
      | int n =>
        simp only [rangeV] at h2
        split at h2
        · rename_i hc
          cases h2
          obtain ⟨b1, b2⟩ := small62_of hc.1
          exact ⟨n, by rw [rb_int q], b1, b2, h3 _ _ _ (walksR hc.2)⟩
        · cases h2
      | _ => cases h2
theorem pi_range2M {tg a b : PySem.Expr} {o1 o2 : Opd} {p pos : Pos} (hg : Gl X "range") (hm : X.mg "range" = none) (ha : PA X [a, b] (tPs X.K ga W c [o1, o2])) (hs : isStar a = false) (hs2 : isStar b = false) : PI X tg (.Call (.Name "range" p) [a, b] [] pos) (tI X.K ga W (app [o1, o2] rangeV c)) := by
  have hst2 : starEach [b] X.env = [(false, eval b X.env)] := star_ok hs2
  have hst : starEach [a, b] X.env = [(false, eval a X.env), (false, eval b X.env)] := by rw [star_ok hs, hst2]
  refine pi_imp (L2.pi_range2 hg hm ha hst hst2) fun σ H R q => ?_
  obtain ⟨g, F, μ, ρ, S, r, q⟩ := app_range q
  refine ⟨g, F, μ, ρ, S, r, Ok.imp q fun vs F1 μ1 ρ1 S1 H1 l p1 r1 k xs hx => ?_⟩
  obtain ⟨F2, μ2, ws, ys, h0, h1, h2, h3⟩ := k xs hx
  cases ws with
  | nil => cases h0
  | cons w ws =>
    cases ws with
    | nil => cases h0
    | cons w2 ws =>
      cases ws with
      | cons _ _ => cases h0
      | nil =>
        obtain ⟨y, z, rfl, q, q2⟩ := rbs_two h1
        cases w with
        | int n =>
          cases w2 with
          | int m =>
            simp only [rangeV] at h2
            split at h2
            · rename_i hc
              cases h2
              obtain ⟨b1, b2⟩ := small62_of hc.1
              obtain ⟨b3, b4⟩ := small62_of hc.2.1
              exact ⟨n, m, by rw [rb_int q, rb_int q2], ⟨b1, b2, b3, b4⟩, h3 _ _ _ (walksR hc.2.2)⟩
            · cases h2
          | _ => cases h2
        | _ => cases h2
end
end Lk
end

section
set_option Elab.async false
set_option linter.all false
set_option maxRecDepth 100000
set_option maxHeartbeats 400000
namespace Lk
open PySem PyProof.Rows
open L2 (V Hp HO upd upd_same upd_ne ne_of ne_of_none Key Rd SqL SqT VK XK WX TE TT TA TG TGs TS TI It PE PT PA PS PSs PG PGs PI PTs PW Cx Vis Loc Gl OpR CallR IxR SlR UnR Inv RelV Vals HOk ObjOk RelO FnOk Room wipe)

section
variable {K : PySem.W.Frag} {ga : GA} {g : Gh} {F F' H H' : Hp} {μ μ' : List Addr} {ρ ρ0 : Env} {S S' : Mem} {σ σ0 : L2.St}
theorem Rel.len (r : Rel K ga g F μ ρ S σ H) : ρ.length = σ.length := plen r.env
theorem Rel.hide (r : Rel K ga g F μ ρ S σ H) : ∀ own : List Nat, Rel K ga g F μ (hideE own ρ) S (wipe σ own) H
  | [] => r
  | i :: own => (Rel.hide r own).setSlot i (s := .unb) (x := none) trivial fun a z => by cases z
theorem wipe_get (σ : L2.St) : ∀ (own : List Nat) (i : Nat), (wipe σ own)[i]? = if i ∈ own then (σ[i]?).map (fun _ => none) else σ[i]?
  | [], i => by simp [wipe]
  | v :: vs, i => by
    have ih := wipe_get σ vs i
    unfold wipe
    rw [List.getElem?_set]
    by_cases hv : v = i
    · subst hv
      have hl : (wipe σ vs).length = σ.length := L2.wipe_length σ vs
      by_cases hlt : v < σ.length
      · simp [hl, hlt]
      · simp [hl, hlt]
    · have hv' : ¬ i = v := fun z => hv z.symm
      simp only [hv, if_false, ih, List.mem_cons, hv', false_or]
theorem wipe_outside {σ σ' : L2.St} {own is : List Nat} (o : Outside is (wipe σ own) σ') (h : ∀ i ∈ is, i ∈ own) : wipe σ' own = wipe σ own := by
  apply List.ext_getElem?
  intro i
  have l : σ'.length = σ.length := by rw [o.1, L2.wipe_length]
  rw [wipe_get, wipe_get]
  by_cases hi : i ∈ own
  · simp only [hi, if_true]
    by_cases hlt : i < σ.length
    · rw [List.getElem?_eq_getElem hlt, List.getElem?_eq_getElem (by omega)]
      rfl
    · rw [List.getElem?_eq_none (by omega), List.getElem?_eq_none (by omega)]
  · simp only [hi, if_false]
    rw [o.2 i fun z => hi (h i z), wipe_get]
    simp [hi]
def unwipe (σ0 : L2.St) : List Nat → L2.St → L2.St
  | [], σ => σ
  | i :: r, σ => (unwipe σ0 r σ).set i (σ0[i]?.getD none)
theorem unwipe_len (σ0 : L2.St) : ∀ (own : List Nat) (σ : L2.St), (unwipe σ0 own σ).length = σ.length
  | [], _ => rfl
  | i :: r, σ => by unfold unwipe; rw [List.length_set, unwipe_len σ0 r]
theorem unwipe_get (σ0 : L2.St) {σ : L2.St} (hl : σ.length = σ0.length) : ∀ (own : List Nat) (i : Nat), (unwipe σ0 own σ)[i]? = if i ∈ own then σ0[i]? else σ[i]?
  | [], i => by simp [unwipe]
  | v :: vs, i => by
    have ih := unwipe_get σ0 hl vs i
    unfold unwipe
    rw [List.getElem?_set]
    by_cases hv : v = i
    · subst hv
      have h2 := unwipe_len σ0 vs σ
      by_cases hlt : v < σ0.length
      · have h3 : v < (unwipe σ0 vs σ).length := by omega
        rw [List.getElem?_eq_getElem hlt]
        simp [h3]
      · have h3 : ¬ v < (unwipe σ0 vs σ).length := by omega
        rw [List.getElem?_eq_none (l := σ0) (by omega)]
        simp [h3]
    · have hv' : ¬ i = v := fun z => hv z.symm
      simp only [hv, if_false, ih, List.mem_cons, hv', false_or]
theorem unwipe_wipe (own : List Nat) : unwipe σ0 own (wipe σ0 own) = σ0 := by
  apply List.ext_getElem?
  intro i
  rw [unwipe_get σ0 (L2.wipe_length σ0 own), wipe_get]
  split <;> rfl
/-- the block's slots are as they were -/
theorem Rel.back (r : Rel K ga g F' μ' ρ S σ H) (q0 : Paired (SlotR K ga g F μ H') ρ0 σ0) (l : Le F F') (p : Pre μ μ') : ∀ own : List Nat, canHide own ρ0 = true → Rel K ga g F' μ' (Lk.back ρ0 own ρ) S (unwipe σ0 own σ) H
  | [], _ => r
  | i :: own, h => by
    have h' : slotFree ρ0[i]? = true ∧ canHide own ρ0 = true := by simpa only [canHide, List.all_cons, Bool.and_eq_true] using h
    have ih := Rel.back r q0 l p own h'.2
    refine ih.setSlot i ?_ ?_
    · cases e : ρ0[i]? with
      | none => trivial
      | some s =>
        obtain ⟨b, e2, q⟩ := pget q0 e
        rw [e2]
        cases s with
        | unb => trivial
        | pv v =>
          obtain ⟨x, e3, rv⟩ := q
          exact ⟨x, e3, rv.mono l p⟩
        | ol vs => rw [e] at h'; cases h'.1
        | od vs => rw [e] at h'; cases h'.1
    · intro a z
      cases e : ρ0[i]? with
      | none => rw [e] at z; cases z
      | some s =>
        rw [e] at z
        cases s with
        | unb => cases z
        | pv v => cases z
        | ol vs => rw [e] at h'; cases h'.1
        | od vs => rw [e] at h'; cases h'.1
end
section
variable {X : Cx} {ga : GA} {W : WX} {c : Caller}
abbrev W0 : WX := fun _ _ _ _ => False
/-- what the turns still to come give -/
def Fin (K : PySem.W.Frag) (ga : GA) (g : Gh) (σ : L2.St) (ρ1 : Env) (own : List Nat) (Q : VK) (F : Hp) (μ : List Addr) (as : List Val) (o : Out (List Val)) : Prop := match o with
  | .ok vs ρe Se => ∀ F' μ' H' x, Le F F' → Pre μ μ' → Rel K ga g F' μ' (back ρ1 own ρe) Se σ H' → RR K ga g F' μ' (back ρ1 own ρe) σ H' (.fl (as ++ vs)) x → Q x H'
  | _ => False
theorem Fin.mono {K : PySem.W.Frag} {g : Gh} {σ : L2.St} {ρ1 : Env} {own : List Nat} {Q : VK} {F F' : Hp} {μ μ' : List Addr} {as : List Val} {o : Out (List Val)} (l : Le F F') (p : Pre μ μ') (h : Fin K ga g σ ρ1 own Q F μ as o) : Fin K ga g σ ρ1 own Q F' μ' as o := by
  cases o with
  | ok vs ρe Se => exact fun F2 μ2 H2 x l2 p2 => h F2 μ2 H2 x (l.trans l2) (p.trans p2)
  | exc _ _ _ _ => exact h
  | bad => exact h
theorem Fin.bnd {α : Type} {K : PySem.W.Frag} {g : Gh} {σ : L2.St} {ρ1 : Env} {own : List Nat} {Q : VK} {F : Hp} {μ : List Addr} {as : List Val} {m : M α} {f : α → M (List Val)} {ρ : Env} {S : Mem} (h : Fin K ga g σ ρ1 own Q F μ as (Lk.bnd m f ρ S)) : ∃ a ρ' S', m ρ S = .ok a ρ' S' ∧ Fin K ga g σ ρ1 own Q F μ as (f a ρ' S') := by
  unfold Lk.bnd at h
  cases e : m ρ S with
  | ok a ρ' S' => rw [e] at h; exact ⟨a, ρ', S', rfl, h⟩
  | exc _ _ _ _ => rw [e] at h; exact h.elim
  | bad => rw [e] at h; exact h.elim
theorem comp_tLc {K : PySem.W.Frag} {fi : Caller → M (List Val)} {own : List Nat} {t : Tgt} {ft : Caller → M Bool} {fe : Caller → M RVal} (hown : ∀ i ∈ tgtIx t, i ∈ own) {σ : L2.St} {H : Hp} {Q : VK} (q : tE K ga W (compM fi own t ft fe c) σ H Q) :
    L2.tLc (tI K ga W (fi c)) (tG K ga t) (tB K ga W0 (ft c)) (tV K ga W0 (valM (fe c))) own σ H Q := by
  obtain ⟨g, F, μ, ρ, S, r, q⟩ := q
  refine ⟨g, F, μ, ρ, S, r, Ok.imp (Ok.bnd q) fun xs F1 μ1 ρ1 S1 H1 l1 p1 r1 k J G Y wk D hD => ?_⟩
  -- the block
  have k1 := Ok.bnd k
  have hb : canHide own ρ1 = true ∧ Fin K ga g σ ρ1 own Q F1 μ1 [] (compL own (fun x => asg t (.fz x)) (ft c) (valM (fe c)) xs ρ1 S1) := by
    unfold inBlock at k1
    by_cases hc : canHide own ρ1 = true
    · refine ⟨hc, ?_⟩
      rw [if_pos hc] at k1
      cases e : compL own (fun x => asg t (.fz x)) (ft c) (valM (fe c)) xs ρ1 S1 with
      | ok vs ρe Se =>
        rw [e] at k1
        intro F' μ' H' x l' p' r' rr
        have k2 := k1 F' μ' H' l' p' r'
        exact Ok.ret k2 r' x rr
      | exc _ _ _ _ => rw [e] at k1; exact k1.elim
      | bad => rw [e] at k1; exact k1.elim
    · rw [if_neg hc] at k1; exact k1.elim
  obtain ⟨hc, fin⟩ := hb
  have fr := r1.free_new hD
  have gd : ∀ zs : List V, ∀ q ∈ g.T, q.1 ≠ D := fun _ => fr.2.2
  let G' : List V → Gh := fun zs => { g with T := (D, .lst zs) :: g.T }
  refine L2.lc_it wk.walk (fun i H' => ∃ F' μ' ρ' S' as zs, Le F1 F' ∧ Pre μ1 μ' ∧ Rel K ga { g with T := (D, HO.lst zs) :: g.T } F' μ' (hideE own ρ') S' (wipe σ own) H' ∧ RVs K ga F' μ' as zs ∧ zs.length ≤ i ∧
    Fin K ga g σ ρ1 own Q F' μ' as (compL own (fun x => asg t (.fz x)) (ft c) (valM (fe c)) (xs.drop i) ρ' S')) ?_ ?_ ?_ ?_
  · refine ⟨F1, μ1, ρ1, S1, [], [], Le.refl _, Pre.refl _, ?_, RVs.nil, Nat.zero_le _, by simpa using fin⟩
    have rh := (r1.hide own)
    have fr2 := rh.free_new hD
    exact (rh.alloc hD).push (let ⟨f1, f2, f3⟩ := fr2; ⟨f1, f2, f3⟩) upd_same
  · rintro i H' _ ⟨F', μ', ρ', S', as, zs, l', p', r', _⟩
    exact wk.good _ F' μ' _ S' _ H' l' p' r'
  · rintro i x H' H2 hi ⟨F', μ', ρ', S', as, zs, l', p', r', ra, hz, fin'⟩ y
    obtain ⟨F2, v, l2, r2, ev, rv⟩ := wk.yields i H' x H2 _ F' μ' _ S' _ y l' p' r'
    have ed : xs.drop i = v :: xs.drop (i + 1) := by
      obtain ⟨hlt, ev⟩ := List.getElem?_eq_some_iff.mp ev
      rw [List.drop_eq_getElem_cons hlt, ev]
    rw [ed] at fin'
    have fin2 := Fin.mono l2 (Pre.refl _) fin'
    obtain ⟨_, ρa, Sa, ea, fin2⟩ := Fin.bnd fin2
    cases ea
    obtain ⟨_, ρb, Sb, eb, fin2⟩ := Fin.bnd fin2
    refine ⟨_, F2, μ', hideE own ρ', S', .fz v, r2, rv, ?_⟩
    have eb' : asg t (.fz v) (hideE own ρ') S' = .ok _ ρb Sb := eb
    rw [eb']
    intro σ3 r3 o3
    have hw := wipe_outside o3 hown
    refine ⟨hw, _, F2, μ', ρb, Sb, r3, ?_⟩
    obtain ⟨b, ρd, Sd, ed2, fin3⟩ := Fin.bnd fin2
    rw [ed2]
    intro F4 μ4 H4 l4 p4 r4 b' hb'
    subst hb'
    have fin4 := Fin.mono l4 p4 fin3
    cases b' with
    | false =>
      refine ⟨F4, μ4, ρd, Sd, as, zs, (l'.trans l2).trans l4, p'.trans p4, ?_, ra.mono (l2.trans l4) p4, by omega, fin4⟩
      rw [← hw]
      exact r4.hide own
    | true =>
      obtain ⟨w, ρf, Sf, ef, fin5⟩ := Fin.bnd fin4
      refine ⟨_, F4, μ4, ρd, Sd, r4, ?_⟩
      rw [ef]
      intro F5 μ5 H5 l5 p5 r5 z rz
      obtain ⟨rp, eD, frD⟩ := r5.pop (gd zs)
      have hlen : zs.length < sizeLine := by
        have := wk.few
        rw [← cap_line]
        omega
      refine ⟨zs, eD, hlen, F5, μ5, ρf, Sf, as ++ [w], zs ++ [z], ((l'.trans l2).trans l4).trans l5, (p'.trans p4).trans p5, ?_, RVs.append (ra.mono ((l2.trans l4).trans l5) (p4.trans p5)) (RVs.cons rz RVs.nil), by simp; omega, ?_⟩
      · rw [← hw]
        have r6 := rp.other (o := .lst (zs ++ [z])) frD
        exact (r6.push (o := HO.lst (zs ++ [z])) frD upd_same).hide own
      · have fin6 := Fin.mono l5 p5 fin5
        obtain ⟨vs, ρg, Sg, eg, fin7⟩ := Fin.bnd fin6
        rw [eg]
        intro F' μ' H' x l p r rr
        refine fin7 F' μ' H' x l p r ?_
        rw [List.append_assoc] at rr
        exact rr
  · rintro H' ⟨F', μ', ρ', S', as, zs, l', p', r', ra, hz, fin'⟩
    rw [List.drop_length] at fin'
    obtain ⟨_, ρa, Sa, ea, fin2⟩ := Fin.bnd fin'
    cases ea
    have q0 : Paired (SlotR K ga { g with T := (D, HO.lst zs) :: g.T } F1 μ1 H1) ρ1 σ := pimp r1.env fun s b _ _ z => by cases s <;> exact z
    have rb := r'.back q0 l' p' own hc
    rw [unwipe_wipe] at rb
    obtain ⟨rp, eD, frD⟩ := rb.pop (gd zs)
    have fin3 : ∀ F'' μ'' H'' x, Le F' F'' → Pre μ' μ'' → Rel K ga g F'' μ'' (back ρ1 own (hideE own ρ')) S' σ H'' → RR K ga g F'' μ'' (back ρ1 own (hideE own ρ')) σ H'' (.fl (as ++ [])) x → Q x H'' := fin2
    refine fin3 F' μ' H' (.ref D) (Le.refl _) (Pre.refl _) rp ?_
    rw [List.append_nil]
    exact ⟨D, zs, rfl, eD, ra, frD⟩
end
end Lk
end

section
set_option Elab.async false
set_option linter.all false
set_option maxRecDepth 100000
set_option maxHeartbeats 400000
namespace Lk
open PySem PyProof.Rows
open L2 (V Hp HO upd upd_same upd_ne ne_of ne_of_none Key Rd SqL SqT VK XK WX TE TT TA TG TGs TS TI It Ends PE PT PA PS PSs PG PGs PI PTs PW PGet PSet PIp Cx Vis Loc Gl OpR CallR IxR SlR UnR Inv RelV Vals HOk ObjOk RelO FnOk Room wipe)

section
variable (K : PySem.W.Frag) (ga : GA)
def EndR (g : Gh) (F : Hp) (μ : List Addr) (ρ : Env) (σ : L2.St) (H : Hp) (D : Ends) : Flow → Prop
  | .nx => D.nx σ H
  | .bk => D.bk σ H
  | .ct => D.ct σ H
  | .rt r => ∀ x, RR K ga g F μ ρ σ H r x → D.rt x H
def OkS (W : WX) (g : Gh) (F : Hp) (μ : List Addr) (o : Out Flow) (D : Ends) : Prop := match o with
  | .ok fl ρ S => ∀ F' μ' σ' H', Le F F' → Pre μ μ' → Rel K ga g F' μ' ρ S σ' H' → EndR K ga g F' μ' ρ σ' H' D fl
  | .exc c fs ρ S => ∀ F' μ' σ' H' cls d, Le F F' → Pre μ μ' → Rel K ga g F' μ' ρ S σ' H' → XR K ga F' μ' c fs cls d → W cls d σ' H'
  | .bad => False
def tS (W : WX) (m : M Flow) : TS := fun D σ H => ∃ g F μ ρ S, Rel K ga g F μ ρ S σ H ∧ OkS K ga W g F μ (m ρ S) D
end
section
variable {K : PySem.W.Frag} {ga : GA} {W : WX} {g : Gh} {F F' H H' : Hp} {μ μ' : List Addr} {ρ : Env} {S S' : Mem} {σ : L2.St} {D : Ends} {α : Type} {c : Caller}
theorem OkS.mono {o : Out Flow} (l : Le F F') (p : Pre μ μ') (h : OkS K ga W g F μ o D) : OkS K ga W g F' μ' o D := by
  cases o with
  | ok a ρ S => exact fun F2 μ2 σ2 H2 l2 p2 r => h F2 μ2 σ2 H2 (l.trans l2) (p.trans p2) r
  | exc c fs ρ S => exact fun F2 μ2 σ2 H2 cls d l2 p2 r x => h F2 μ2 σ2 H2 cls d (l.trans l2) (p.trans p2) r x
  | bad => exact h
theorem OkS.ret {fl : Flow} (h : OkS K ga W g F μ (Lk.ret fl ρ S) D) (r : Rel K ga g F μ ρ S σ H) : EndR K ga g F μ ρ σ H D fl := h F μ σ H (Le.refl _) (Pre.refl _) r
/-- an expression, then the rest -/
theorem OkS.bndE {m : M α} {f : α → M Flow} (σ : L2.St) (h : OkS K ga W g F μ (Lk.bnd m f ρ S) D) : Ok K ga W g σ F μ (m ρ S) fun a F' μ' ρ' S' _ => OkS K ga W g F' μ' (f a ρ' S') D := by
  unfold Lk.bnd at h
  cases e : m ρ S with
  | ok a ρ' S' => rw [e] at h; exact fun F2 μ2 H2 l2 p2 _ => OkS.mono l2 p2 h
  | exc c fs ρ' S' => rw [e] at h; exact fun F2 μ2 H2 cls d l2 p2 r x => h F2 μ2 σ H2 cls d l2 p2 r x
  | bad => rw [e] at h; exact h
/-- a statement, then the rest -/
theorem OkS.bndS {m : M Flow} {f : Flow → M Flow} (h : OkS K ga W g F μ (Lk.bnd m f ρ S) D) {D' : Ends} (hk : ∀ fl F' μ' ρ' S' σ' H', Le F F' → Pre μ μ' → Rel K ga g F' μ' ρ' S' σ' H' → OkS K ga W g F' μ' (f fl ρ' S') D → EndR K ga g F' μ' ρ' σ' H' D' fl) : OkS K ga W g F μ (m ρ S) D' := by
  unfold Lk.bnd at h
  cases e : m ρ S with
  | ok a ρ' S' =>
    rw [e] at h
    exact fun F2 μ2 σ2 H2 l2 p2 r2 => hk a F2 μ2 ρ' S' σ2 H2 l2 p2 r2 (OkS.mono l2 p2 h)
  | exc c fs ρ' S' => rw [e] at h; exact h
  | bad => rw [e] at h; exact h
theorem oks_setS {i : Nat} {s : Slot} {f : Unit → M Flow} (h : OkS K ga W g F μ (Lk.bnd (setS i s) f ρ S) D) : OkS K ga W g F μ (f () (ρ.set i s) S) D := by
  unfold Lk.bnd setS at h
  by_cases hl : i < ρ.length
  · rw [if_pos hl] at h; exact h
  · rw [if_neg hl] at h; exact h.elim
theorem oks_opt {o : Option α} {f : α → M Flow} (h : OkS K ga W g F μ (Lk.bnd (opt o) f ρ S) D) : ∃ a, o = some a ∧ OkS K ga W g F μ (f a ρ S) D := by
  cases o with
  | none => exact h.elim
  | some a => exact ⟨a, rfl, h⟩
mutual
theorem asg_calm : ∀ (t : Tgt) (r : RVal) (ρ : Env) (S : Mem) {k : Nat} {fs : List (Nat × Val)} {ρ' : Env} {S' : Mem}, asg t r ρ S = .exc k fs ρ' S' → False
  | .nm i, r, ρ, S, _, _, _, _, h => by
    simp only [asg, setS] at h
    split at h <;> cases h
  | .tp ts, .fz (.tup vs), ρ, S, _, _, _, _, h => by
    simp only [asg] at h
    split at h
    · exact asgs_calm ts vs ρ S h
    · cases h
  | .tp ts, .fz .non, ρ, S, _, _, _, _, h => by cases h
  | .tp ts, .fz (.bl _), ρ, S, _, _, _, _, h => by cases h
  | .tp ts, .fz (.int _), ρ, S, _, _, _, _, h => by cases h
  | .tp ts, .fz (.str _), ρ, S, _, _, _, _, h => by cases h
  | .tp ts, .fz (.lst _), ρ, S, _, _, _, _, h => by cases h
  | .tp ts, .fz (.dic _), ρ, S, _, _, _, _, h => by cases h
  | .tp ts, .fz (.obj _ _), ρ, S, _, _, _, _, h => by cases h
  | .tp ts, .fz (.loc _), ρ, S, _, _, _, _, h => by cases h
  | .tp ts, .fz (.fn _), ρ, S, _, _, _, _, h => by cases h
  | .tp ts, .fz (.cls _), ρ, S, _, _, _, _, h => by cases h
  | .tp ts, .fz (.ty _), ρ, S, _, _, _, _, h => by cases h
  | .tp ts, .fl _, ρ, S, _, _, _, _, h => by cases h
  | .tp ts, .fd _, ρ, S, _, _, _, _, h => by cases h
theorem asgs_calm : ∀ (ts : List Tgt) (vs : List Val) (ρ : Env) (S : Mem) {k : Nat} {fs : List (Nat × Val)} {ρ' : Env} {S' : Mem}, asgs ts vs ρ S = .exc k fs ρ' S' → False
  | [], [], ρ, S, _, _, _, _, h => by cases h
  | [], _ :: _, ρ, S, _, _, _, _, h => by cases h
  | _ :: _, [], ρ, S, _, _, _, _, h => by cases h
  | t :: ts, v :: vs, ρ, S, _, _, _, _, h => by
    simp only [asgs, bnd] at h
    cases e : asg t (.fz v) ρ S with
    | ok u ρ1 S1 => simp only [e] at h; exact asgs_calm ts vs ρ1 S1 h
    | exc _ _ _ _ => exact asg_calm t _ ρ S e
    | bad => simp only [e] at h; cases h
end
/-- a list is shared -/
theorem Rel.share {m : MObj} {a : Addr} (r : Rel K ga g F μ ρ S σ H) (hm : MObjR K ga F (μ ++ [a]) H m a) (fr : Free g F μ ρ σ a) : Rel K ga g F (μ ++ [a]) ρ (S ++ [m]) σ H := by
  obtain ⟨⟨f1, f2, f3⟩, f4, f5⟩ := fr
  have pr : Pre μ (μ ++ [a]) := fun n b h => by rw [List.getElem?_append_left (List.getElem?_eq_some_iff.mp h).1]; exact h
  have own : ∀ b, b ≠ a → Own g F μ b → Own g F (μ ++ [a]) b := fun b n q => ⟨q.1, by simp only [List.mem_append, List.mem_singleton, not_or]; exact ⟨q.2.1, n⟩, q.2.2⟩
  refine ⟨⟨r.r0.sub, pappend (pimp r.r0.mem fun m b _ _ q => ?_) (.cons hm .nil), ?_⟩, ⟨r.gr.le, r.gr.pre.trans pr, r.gr.keep, r.gr.newF, fun b hb => ?_⟩, pimpI r.env fun i s b e1 e2 q => ?_, r.apart, fun q hq => ?_⟩
  · obtain ⟨q1, q2⟩ := q
    refine ⟨q1, ?_⟩
    cases m with
    | lst vs => obtain ⟨xs, e, t⟩ := q2; exact ⟨xs, e, t.mono (Le.refl _) pr⟩
    | dic vs => obtain ⟨xs, e, t⟩ := q2; exact ⟨xs, e, t.mono (Le.refl _) pr⟩
    | ins c fs => exact q2.elim
  · rw [List.nodup_append]
    refine ⟨r.r0.nd, by simp, fun x hx y hy => ?_⟩
    have : y = a := by simpa using hy
    subst this
    exact fun z => f2 (z ▸ hx)
  · rcases List.mem_append.mp hb with z | z
    · exact r.gr.newM b z
    · have : b = a := by simpa using z
      subst this
      exact .inr f3
  · refine SlotR.imp (Le.refl _) pr q fun b u eb ho hu => ⟨hu, own b (fun z => ?_) ?_⟩
    · exact f4 i ⟨⟨s, e1, ho⟩, by rw [e2, eb, z]⟩
    · exact (own_some r.env ⟨⟨s, e1, ho⟩, by rw [e2, eb]⟩).1
  · obtain ⟨t1, t2, t3⟩ := r.tmp q hq
    exact ⟨t1, own _ (f5 q hq) t2, t3⟩
/-- a shared list is stored into -/
theorem Rel.setMem {n j : Nat} {vs : List Val} {xs : List V} {a : Addr} {v : Val} {x : V} (r : Rel K ga g F μ ρ S σ H) (hn : S[n]? = some (.lst vs)) (ha : μ[n]? = some a) (e : H a = some (.lst xs)) (t : RVs K ga F μ vs xs) (rv : RV K ga F μ v x) :
    Rel K ga g F μ ρ (S.set n (.lst (vs.set j v))) σ (upd H a (.lst (xs.set j x))) := by
  have hm : a ∈ μ := List.mem_of_getElem? ha
  have f1 : F a = none := (r.r0.someM hm).1
  have ne : ∀ b u, F b = some u → b ≠ a := fun b u q z => by rw [z, f1] at q; cases q
  refine ⟨⟨fun b u q => by rw [upd_ne (ne b u q)]; exact r.r0.sub b u q, ?_, r.r0.nd⟩, ⟨r.gr.le, r.gr.pre, fun b u q nb => ?_, r.gr.newF, r.gr.newM⟩, pimpI r.env fun i s b e1 e2 q => ?_, r.apart, fun q hq => ?_⟩
  · have p1 : Paired (MObjR K ga F μ (upd H a (.lst (xs.set j x)))) (S.set n (.lst (vs.set j v))) (μ.set n a) := by
      have p0 : Paired (fun m b => b ≠ a → MObjR K ga F μ (upd H a (.lst (xs.set j x))) m b) S μ := pimp r.r0.mem fun m b _ _ q nb => by
        obtain ⟨q1, q2⟩ := q
        refine ⟨q1, ?_⟩
        cases m with
        | lst vs => obtain ⟨xs, e, t⟩ := q2; exact ⟨xs, by rw [upd_ne nb]; exact e, t⟩
        | dic vs => obtain ⟨xs, e, t⟩ := q2; exact ⟨xs, by rw [upd_ne nb]; exact e, t⟩
        | ins c fs => exact q2.elim
      have p2 : Paired (fun m b => b ≠ a → MObjR K ga F μ (upd H a (.lst (xs.set j x))) m b) (S.set n (.lst (vs.set j v))) (μ.set n a) := pset (fun z => absurd rfl z) n p0
      refine pimpI p2 fun i m b e1 e2 q => ?_
      by_cases hi : i = n
      · subst hi
        have hlS : i < S.length := (List.getElem?_eq_some_iff.mp hn).1
        have hlm : i < μ.length := (List.getElem?_eq_some_iff.mp ha).1
        rw [List.getElem?_set_self hlS] at e1
        rw [List.getElem?_set_self hlm] at e2
        cases e1; cases e2
        exact ⟨f1, _, upd_same, RVs.set rv j t⟩
      · rw [List.getElem?_set_ne (Ne.symm hi)] at e1 e2
        refine q fun z => hi ?_
        subst z
        obtain ⟨h1, h2⟩ := List.getElem?_eq_some_iff.mp e2
        obtain ⟨h3, h4⟩ := List.getElem?_eq_some_iff.mp ha
        exact (List.getElem_inj (h₀ := h1) (h₁ := h3) r.r0.nd).mp (h2.trans h4.symm)
    have e3 : μ.set n a = μ := by
      obtain ⟨h3, h4⟩ := List.getElem?_eq_some_iff.mp ha
      rw [← h4]
      exact List.set_getElem_self h3
    rw [e3] at p1
    exact p1
  · have nb' : b ≠ a := fun z => by
      subst z
      rcases r.gr.newM b hm with z | z
      · exact nb z
      · rw [q] at z; cases z
    rw [upd_ne nb']
    exact r.gr.keep b u q nb
  · refine SlotR.imp (Le.refl _) (Pre.refl _) q fun b u eb ho hu => ?_
    have hO := (own_some r.env (a := b) (i := i) ⟨⟨s, e1, ho⟩, by rw [e2, eb]⟩).1
    exact ⟨by rw [upd_ne (by intro z; subst z; exact hO.2.1 hm)]; exact hu, hO⟩
  · obtain ⟨t1, t2, t3⟩ := r.tmp q hq
    have nq : q.1 ≠ a := by
      intro z
      rw [z] at t2
      exact t2.2.1 hm
    exact ⟨by rw [upd_ne nq]; exact t1, t2, t3⟩
/-- a name's own list is taken -/
theorem Rel.take {i : Nat} {s : Slot} (r : Rel K ga g F μ ρ S σ H) (e : ρ[i]? = some s) (hs : s.isOwn = true) {b : Option V} (e2 : σ[i]? = some b) (q : SlotR K ga g F μ H s b) : ∀ a, b = some (.ref a) → Rel K ga g F μ (ρ.set i .unb) S σ H ∧ Free g F μ (ρ.set i .unb) σ a := by
  intro a eb
  subst eb
  have o1 : OwnAt ρ σ i a := ⟨⟨s, e, hs⟩, e2⟩
  refine ⟨r.setGhost i rfl fun _ _ => trivial, (own_some r.env o1).1, fun j z => ?_, fun q hq z => ?_⟩
  · have hj : j ≠ i := fun z' => by
      subst z'
      obtain ⟨⟨t, et, ho⟩, _⟩ := z
      rw [List.getElem?_set] at et
      simp only [if_true] at et
      split at et
      · cases et; cases ho
      · cases et
    have z' : OwnAt ρ σ j a := by
      obtain ⟨⟨t, et, ho⟩, e5⟩ := z
      rw [List.getElem?_set_ne (Ne.symm hj)] at et
      exact ⟨⟨t, et, ho⟩, e5⟩
    exact hj (r.apart j i a z' o1)
  · obtain ⟨_, _, t3⟩ := r.tmp q hq
    rw [z] at t3
    exact t3 i o1
end
section
variable {X : Cx} {ga : GA} {W : WX} {c : Caller} {pos : Pos}
theorem pss_nilM : PSs X [] (tS X.K ga W (Lk.ret .nx)) := pss_imp L2.pss_nil fun D σ H q => by
  obtain ⟨g, F, μ, ρ, S, r, q⟩ := q
  exact OkS.ret (W := W) q r
theorem pss_consM {st : Stmt} {rest : List Stmt} {a b : M Flow} (h1 : PS X st (tS X.K ga W a)) (h2 : PSs X rest (tS X.K ga W b)) : PSs X (st :: rest) (tS X.K ga W (seqM a b)) := pss_imp (L2.pss_cons h1 h2) fun D σ H q => by
  obtain ⟨g, F, μ, ρ, S, r, q⟩ := q
  refine ⟨g, F, μ, ρ, S, r, OkS.bndS q fun fl F' μ' ρ' S' σ' H' l p r' k => ?_⟩
  cases fl with
  | nx => exact ⟨g, F', μ', ρ', S', r', k⟩
  | bk => exact OkS.ret (W := W) k r'
  | ct => exact OkS.ret (W := W) k r'
  | rt v => exact OkS.ret (W := W) k r'
theorem ps_passM : PS X (.Pass pos) (tS X.K ga W (Lk.ret .nx)) := ps_imp L2.ps_pass fun D σ H q => by
  obtain ⟨g, F, μ, ρ, S, r, q⟩ := q
  exact OkS.ret (W := W) q r
theorem ps_breakM : PS X (.Break pos) (tS X.K ga W (Lk.ret .bk)) := ps_imp L2.ps_break fun D σ H q => by
  obtain ⟨g, F, μ, ρ, S, r, q⟩ := q
  exact OkS.ret (W := W) q r
theorem ps_contM : PS X (.Continue pos) (tS X.K ga W (Lk.ret .ct)) := ps_imp L2.ps_continue fun D σ H q => by
  obtain ⟨g, F, μ, ρ, S, r, q⟩ := q
  exact OkS.ret (W := W) q r
theorem ps_docM {x : Str} {j : Nat} {p : Pos} : PS X (.Expr (.Constant (.str x) j p) pos) (tS X.K ga W (Lk.ret .nx)) := ps_imp L2.ps_doc fun D σ H q => by
  obtain ⟨g, F, μ, ρ, S, r, q⟩ := q
  exact OkS.ret (W := W) q r
theorem ps_retNM : PS X (.Return none pos) (tS X.K ga W (Lk.ret (.rt (.fz .non)))) := ps_imp L2.ps_retN fun D σ H q => by
  obtain ⟨g, F, μ, ρ, S, r, q⟩ := q
  exact OkS.ret (W := W) q r .non (by simp [RR, RV])
theorem ps_retM {e : PySem.Expr} {f : Caller → M RVal} (h : PE X e (tE X.K ga W (f c))) : PS X (.Return (some e) pos) (tS X.K ga W (bnd (f c) fun v => ret (.rt v))) := ps_imp (L2.ps_ret h) fun D σ H q => by
  obtain ⟨g, F, μ, ρ, S, r, q⟩ := q
  exact ⟨g, F, μ, ρ, S, r, Ok.imp (OkS.bndE σ q) fun v F1 μ1 ρ1 S1 H1 l p r1 k x hx => OkS.ret (W := W) k r1 x hx⟩
theorem ps_retSlot {i : Nat} {x : Str} {p : Pos} (hN : X.N[i]? = some x) (hv : Vis X.env.scope x) (hd : (x == ("__debug__" : Str)) = false) (hcd : (x == ("__classdict__" : Str)) = false) : PS X (.Return (some (.Name x p)) pos) (tS X.K ga W (retSlot i)) := ps_imp (L2.ps_ret (L2.pe_var hN hv hd hcd)) fun D σ H q => by
  obtain ⟨g, F, μ, ρ, S, r, q⟩ := q
  unfold retSlot at q
  cases e : ρ[i]? with
  | none => rw [e] at q; exact q.elim
  | some s =>
    rw [e] at q
    obtain ⟨b, e2, sr⟩ := pget r.env e
    cases s with
    | unb => exact q.elim
    | pv v =>
      obtain ⟨y, rfl, rv⟩ := id sr
      exact ⟨y, e2, q F μ σ H (Le.refl _) (Pre.refl _) r y rv⟩
    | ol vs =>
      obtain ⟨a, xs, rfl, _, h1, h2⟩ := id sr
      obtain ⟨r1, fr⟩ := r.take e rfl e2 sr a rfl
      exact ⟨.ref a, e2, q F μ σ H (Le.refl _) (Pre.refl _) r1 (.ref a) ⟨a, xs, rfl, h1, h2, fr⟩⟩
    | od vs =>
      obtain ⟨a, xs, rfl, _, h1, h2⟩ := id sr
      obtain ⟨r1, fr⟩ := r.take e rfl e2 sr a rfl
      exact ⟨.ref a, e2, q F μ σ H (Le.refl _) (Pre.refl _) r1 (.ref a) ⟨a, xs, rfl, h1, h2, fr⟩⟩
theorem ps_ifM {t : PySem.Expr} {a b : List Stmt} {ft : Caller → M Bool} {fa fb : Caller → M Flow} (ht : PT X t (tB X.K ga W (ft c))) (ha : PSs X a (tS X.K ga W (fa c))) (hb : PSs X b (tS X.K ga W (fb c))) : PS X (.If t a b pos) (tS X.K ga W (bnd (ft c) fun x => if x then fa c else fb c)) := ps_imp (L2.ps_if ht ha hb) fun D σ H q => by
  obtain ⟨g, F, μ, ρ, S, r, q⟩ := q
  refine ⟨g, F, μ, ρ, S, r, Ok.imp (OkS.bndE σ q) fun d F1 μ1 ρ1 S1 H1 l p r1 k x hx => ?_⟩
  subst hx
  cases x with
  | true => exact ⟨g, F1, μ1, ρ1, S1, r1, k⟩
  | false => exact ⟨g, F1, μ1, ρ1, S1, r1, k⟩
/-- while -/
theorem ps_whileM {t : PySem.Expr} {b : List Stmt} {ft : Caller → M Bool} {fb : Caller → M Flow} (hp : PassesOwn (model X.prog X.w) X.A X.env X.xe) (ht : PT X t (tB X.K ga W (ft c))) (hb : PSs X b (tS X.K ga W (fb c))) (n : Nat) : PS X (.While t b [] pos) (tS X.K ga W (whileL (ft c) (fb c) n)) := ps_imp (L2.ps_while hp ht hb) fun D σ H q => by
  refine ⟨fun m σ H => tS X.K ga W (whileL (ft c) (fb c) m) D σ H, ⟨n, q⟩, fun m σ H q => ?_⟩
  obtain ⟨g, F, μ, ρ, S, r, q⟩ := q
  cases m with
  | zero => exact q.elim
  | succ m =>
    refine ⟨g, F, μ, ρ, S, r, Ok.imp (OkS.bndE σ q) fun d F1 μ1 ρ1 S1 H1 l p r1 k x hx => ?_⟩
    subst hx
    cases x with
    | true =>
      refine ⟨fun σ H => tS X.K ga W (whileL (ft c) (fb c) m) D σ H, fun σ' H' h => ⟨m, Nat.lt_succ_self m, h⟩, g, F1, μ1, ρ1, S1, r1, OkS.bndS k fun fl F' μ' ρ' S' σ' H' l p r' k => ?_⟩
      cases fl with
      | nx => exact ⟨g, F', μ', ρ', S', r', k⟩
      | ct => exact ⟨g, F', μ', ρ', S', r', k⟩
      | bk => exact OkS.ret (W := W) k r'
      | rt v => exact OkS.ret (W := W) k r'
    | false => exact OkS.ret (W := W) k r1
/-- for -/
theorem ps_forM {tg it : PySem.Expr} {b : List Stmt} {fi : Caller → M (List Val)} {t : Tgt} {fb : Caller → M Flow} (hp : PassesOwn (model X.prog X.w) X.A X.env X.xe) (hc : X.calm = true) (hi : PI X tg it (tI X.K ga W (fi c))) (hg : PG X tg (tG X.K ga t)) (hb : PSs X b (tS X.K ga W (fb c))) (hs : ∀ x, foldedSetIterable it X.env x = pure x) :
    PS X (.For tg it b [] pos) (tS X.K ga W (bnd (fi c) fun xs => forL (fun x => asg t (.fz x)) (fb c) xs)) := ps_imp (L2.ps_for hp hc hi hg hb hs) fun D σ H q => by
  obtain ⟨g, F, μ, ρ, S, r, q⟩ := q
  refine ⟨g, F, μ, ρ, S, r, Ok.imp (OkS.bndE σ q) fun xs F1 μ1 ρ1 S1 H1 l1 p1 r1 k J G Y wk => ?_⟩
  refine L2.for_it wk.walk (fun i σ H' => ∃ F' μ' ρ' S', Le F1 F' ∧ Pre μ1 μ' ∧ Rel X.K ga g F' μ' ρ' S' σ H' ∧ OkS X.K ga W g F' μ' (forL (fun x => asg t (.fz x)) (fb c) (xs.drop i) ρ' S') D) ?_ ?_ ?_ ?_
  · exact ⟨F1, μ1, ρ1, S1, Le.refl _, Pre.refl _, r1, by simpa using k⟩
  · rintro i σ' H' _ ⟨F', μ', ρ', S', l', p', r', _⟩
    exact wk.good _ F' μ' _ S' _ H' l' p' r'
  · rintro i x σ' H' H2 hi ⟨F', μ', ρ', S', l', p', r', k'⟩ y
    obtain ⟨F2, v, l2, r2, ev, rv⟩ := wk.yields i H' x H2 _ F' μ' _ S' _ y l' p' r'
    have ed : xs.drop i = v :: xs.drop (i + 1) := by
      obtain ⟨hlt, ev⟩ := List.getElem?_eq_some_iff.mp ev
      rw [List.drop_eq_getElem_cons hlt, ev]
    rw [ed] at k'
    have k2 := OkS.mono l2 (Pre.refl _) k'
    refine ⟨g, F2, μ', ρ', S', .fz v, r2, rv, ?_⟩
    unfold forL Lk.bnd at k2
    cases e : asg t (.fz v) ρ' S' with
    | ok u ρ3 S3 =>
      simp only [e] at k2
      intro σ3 r3 _
      refine ⟨g, F2, μ', ρ3, S3, r3, OkS.bndS (f := fun f => match f with
        | .nx | .ct => forL (fun x => asg t (.fz x)) (fb c) (xs.drop (i + 1))
        | .bk => ret .nx
        | .rt v => ret (.rt v)) k2 fun fl F4 μ4 ρ4 S4 σ4 H4 l4 p4 r4 k4 => ?_⟩
      cases fl with
      | nx => exact ⟨F4, μ4, ρ4, S4, (l'.trans l2).trans l4, p'.trans p4, r4, k4⟩
      | ct => exact ⟨F4, μ4, ρ4, S4, (l'.trans l2).trans l4, p'.trans p4, r4, k4⟩
      | bk => exact OkS.ret (W := W) k4 r4
      | rt v => exact OkS.ret (W := W) k4 r4
    | exc _ _ _ _ => exact (asg_calm _ _ _ _ e).elim
    | bad => simp only [e] at k2; exact k2.elim
  · rintro σ' H' ⟨F', μ', ρ', S', l', p', r', k'⟩
    rw [List.drop_length] at k'
    exact OkS.ret (W := W) k' r'
end
end Lk
end

section
set_option Elab.async false
set_option linter.all false
set_option maxRecDepth 100000
set_option maxHeartbeats 400000
namespace Lk
open PySem PyProof.Rows
open L2 (V Hp HO upd upd_same upd_ne ne_of ne_of_none Key Rd SqL SqT VK XK WX TE TT TA TG TGs TS TI It Ends PE PT PA PS PSs PG PGs PI PTs PW PGet PSet PIp Cx Vis Loc Gl OpR CallR IxR SlR UnR Inv RelV Vals HOk ObjOk RelO FnOk Room wipe)

section
variable {X : Cx} {ga : GA} {W : WX} {c : Caller} {pos : Pos}
theorem setNm_ok {K : PySem.W.Frag} {g : Gh} {F : Hp} {μ : List Addr} {ρ : Env} {S : Mem} {σ : L2.St} {H : Hp} {D : Ends} {i : Nat} {sh : Bool} {v : RVal} {x : V} (h : OkS K ga W g F μ (setNm i sh v ρ S) D) (r : Rel K ga g F μ ρ S σ H) (rr : RR K ga g F μ ρ σ H v x) : D.nx (σ.set i (some x)) H := by
  cases sh with
  | false =>
    have k := oks_setS (W := W) (f := fun _ => ret .nx) (by simpa [setNm, nextM] using h)
    exact OkS.ret (W := W) k (r.setR i rr)
  | true =>
    have pr : ∀ a, Pre μ (μ ++ [a]) := fun a n b h => by rw [List.getElem?_append_left (List.getElem?_eq_some_iff.mp h).1]; exact h
    have hl : S.length = μ.length := plen r.r0.mem
    have loc : ∀ a, RV K ga F (μ ++ [a]) (.loc S.length) (.ref a) := fun a => by
      simp only [RV]
      exact ⟨a, rfl, by rw [hl]; simp⟩
    cases v with
    | fz w => exact False.elim h
    | fd vs =>
      have k := oks_setS (W := W) (f := fun _ => ret .nx) (ρ := ρ) (S := S ++ [.dic vs]) (by simpa [setNm, nextM, newLoc, bnd] using h)
      obtain ⟨a, xs, e, h1, h2, h3⟩ := rr
      subst e
      have r2 := r.share (m := .dic vs) ⟨h3.1.1, xs, h1, h2.mono (Le.refl _) (pr a)⟩ h3
      exact k F (μ ++ [a]) _ H (Le.refl _) (pr a) (r2.setR (y := .fz (.loc S.length)) i (loc a))
    | fl vs =>
      have k := oks_setS (W := W) (f := fun _ => ret .nx) (ρ := ρ) (S := S ++ [.lst vs]) (by simpa [setNm, nextM, newLoc, bnd] using h)
      obtain ⟨a, xs, e, h1, h2, h3⟩ := rr
      subst e
      have r2 := r.share (m := .lst vs) ⟨h3.1.1, xs, h1, h2.mono (Le.refl _) (pr a)⟩ h3
      exact k F (μ ++ [a]) _ H (Le.refl _) (pr a) (r2.setR (y := .fz (.loc S.length)) i (loc a))
theorem swaps_no {e : PySem.Expr} (h : isComp e = false) (t : Option PySem.Expr) (l : Nat) : swapsWith e t l X.env = pure false := by
  cases e <;> first | rfl | cases h
theorem ps_setM {i : Nat} {x : Str} {e : PySem.Expr} {f : Caller → M RVal} {sh : Bool} {p : Pos} (hN : X.N.Nodup) (hi : X.N[i]? = some x) (hx : Loc X.env.scope x) (hf : X.fn x = true ∨ X.env.scope.names.lookup x = some .local) (he : PE X e (tE X.K ga W (f c))) (hs : swapsWith e (some (.Name x p)) pos.line X.env = pure false) :
    PS X (.Assign [.Name x p] e pos) (tS X.K ga W (bnd (f c) fun v => setNm i sh v)) := ps_imp (L2.ps_set hN hi hx he hs hf) fun D σ H q => by
  obtain ⟨g, F, μ, ρ, S, r, q⟩ := q
  exact ⟨g, F, μ, ρ, S, r, Ok.imp (OkS.bndE σ q) fun v F1 μ1 ρ1 S1 H1 l p r1 k x hx => setNm_ok k r1 hx⟩
theorem ps_setCompM {i : Nat} {x : Str} {elt tg it : PySem.Expr} {ifs : List PySem.Expr} {scope : Scope} {own : List (Str × Nat)} {fi : Caller → M (List Val)} {t : Tgt} {ft : Caller → M Bool} {fe : Caller → M RVal} {sh : Bool} {p cp : Pos} (hc : X.calm = true) (hN : X.N.Nodup) (hi : X.N[i]? = some x) (hxl : X.env.scope.names.lookup x = some .local)
    (hsw : swapsWith (.ListComp elt [⟨tg, it, ifs, 0⟩] scope cp) (some (.Name x p)) pos.line X.env = pure true) (hit : PI X tg it (tI X.K ga W (fi c))) (ok : L2.BlkOk X.N X.env.scope scope own)
    (hg : ∀ (s : Shared) (H : Hp) (C : Addr) (cl : List (Str × Addr)) (fp : List Addr), PG (X.blk s H scope (compEnvC scope cl C X.env) fp) tg (tG X.K ga t)) (ht : ∀ (s : Shared) (H : Hp) (C : Addr) (cl : List (Str × Addr)) (fp : List Addr), PTs (X.blk s H scope (compEnvC scope cl C X.env) fp) ifs (tB X.K ga W0 (ft c)))
    (he : ∀ (s : Shared) (H : Hp) (C : Addr) (cl : List (Str × Addr)) (fp : List Addr), PE (X.blk s H scope (compEnvC scope cl C X.env) fp) elt (tE X.K ga W0 (fe c))) (hs : ∀ x, foldedSetIterable it X.env x = pure x) (hown : ∀ i ∈ tgtIx t, i ∈ own.map (·.2)) :
    PS X (.Assign [.Name x p] (.ListComp elt [⟨tg, it, ifs, 0⟩] scope cp) pos) (tS X.K ga W (bnd (compM fi (own.map (·.2)) t ft fe c) fun v => setNm i sh v)) :=
  ps_imp (L2.ps_setLc hc hN hi hxl hsw hit ok hg ht (fun s H C cl fp => pe_val (he s H C cl fp)) hs) fun D σ H q => by
  obtain ⟨g, F, μ, ρ, S, r, q⟩ := q
  exact comp_tLc hown ⟨g, F, μ, ρ, S, r, Ok.imp (OkS.bndE σ q) fun v F1 μ1 ρ1 S1 H1 l p r1 k x hx => setNm_ok k r1 hx⟩
theorem pe_compM {elt tg it : PySem.Expr} {ifs : List PySem.Expr} {scope : Scope} {own : List (Str × Nat)} {fi : Caller → M (List Val)} {t : Tgt} {ft : Caller → M Bool} {fe : Caller → M RVal} (hc : X.calm = true) (hN : X.N.Nodup) (hit : PI X tg it (tI X.K ga W (fi c))) (ok : L2.BlkOk X.N X.env.scope scope own)
    (hg : ∀ (s : Shared) (H : Hp) (C : Addr) (cl : List (Str × Addr)) (fp : List Addr), PG (X.blk s H scope (compEnvC scope cl C X.env) fp) tg (tG X.K ga t)) (ht : ∀ (s : Shared) (H : Hp) (C : Addr) (cl : List (Str × Addr)) (fp : List Addr), PTs (X.blk s H scope (compEnvC scope cl C X.env) fp) ifs (tB X.K ga W0 (ft c)))
    (he : ∀ (s : Shared) (H : Hp) (C : Addr) (cl : List (Str × Addr)) (fp : List Addr), PE (X.blk s H scope (compEnvC scope cl C X.env) fp) elt (tE X.K ga W0 (fe c))) (hs : ∀ x, foldedSetIterable it X.env x = pure x) (hown : ∀ i ∈ tgtIx t, i ∈ own.map (·.2)) :
    PE X (.ListComp elt [⟨tg, it, ifs, 0⟩] scope pos) (tE X.K ga W (compM fi (own.map (·.2)) t ft fe c)) :=
  pe_imp (L2.pe_lc hc hN hit ok hg ht (fun s H C cl fp => pe_val (he s H C cl fp)) hs) fun σ H Q q => comp_tLc hown q
/-- a, b = e -/
theorem ps_asgTupM {ts : List PySem.Expr} {k : Nat} {tp : Pos} {e : PySem.Expr} {f : Caller → M RVal} {gs : List Tgt} (he : PE X e (tE X.K ga W (f c))) (hg : PG X (.Tuple ts k tp) (tG X.K ga (.tp gs))) (hs : isComp e = false) (hw : swappedStores [.Tuple ts k tp] e X.env = pure none) :
    PS X (.Assign [.Tuple ts k tp] e pos) (tS X.K ga W (bnd (valM (f c)) fun v => nextM (asg (.tp gs) (.fz v)))) := ps_imp (L2.ps_asg (pe_val he) hg (show swapsWith e (some (.Tuple ts k tp)) pos.line X.env = pure false from swaps_no hs _ _) hw rfl) fun D σ H q => by
  obtain ⟨g, F, μ, ρ, S, r, q⟩ := q
  refine ⟨g, F, μ, ρ, S, r, Ok.imp (OkS.bndE σ q) fun v F1 μ1 ρ1 S1 H1 l p r1 k x hx => ⟨g, F1, μ1, ρ1, S1, .fz v, r1, hx, ?_⟩⟩
  unfold nextM bnd at k
  cases e : asg (.tp gs) (.fz v) ρ1 S1 with
  | ok u ρ2 S2 =>
    simp only [e] at k
    exact fun σ' r' _ => OkS.ret (W := W) k r'
  | exc _ _ _ _ => exact (asg_calm _ _ _ _ e).elim
  | bad => simp only [e] at k; exact k.elim
/-- x += e, ints -/
theorem ps_augM {i : Nat} {x : Str} {e : PySem.Expr} {f : Caller → M RVal} {p : Pos} (hN : X.N.Nodup) (hi : X.N[i]? = some x) (hx : Loc X.env.scope x) (hf : X.fn x = true ∨ X.env.scope.names.lookup x = some .local) (he : PE X e (tE X.K ga W (f c))) :
    PS X (.AugAssign (.Name x p) .Add e pos) (tS X.K ga W (bnd (readB i) fun x => bnd (valM (f c)) fun y => bnd (opt (addI x y)) fun z => nextM (setS i (.pv z)))) := ps_imp (L2.ps_aug hN hi hx (pe_val he) L2.ip_add hf) fun D σ H q => by
  obtain ⟨g, F, μ, ρ, S, r, q⟩ := q
  unfold Lk.bnd readB at q
  cases e : (ρ[i]?).bind slotV with
  | none => simp only [e] at q; exact q.elim
  | some v =>
    simp only [e] at q
    obtain ⟨y, e2, rb⟩ := slot_rb r e
    refine ⟨y, e2, g, F, μ, ρ, S, r, Ok.imp (OkS.bndE (f := fun y => bnd (opt (addI v y)) fun z => nextM (setS i (.pv z))) σ q) fun w F1 μ1 ρ1 S1 H1 l p r1 k z hz => ?_⟩
    obtain ⟨s, e3, k⟩ := oks_opt k
    have k2 := oks_setS k
    unfold addI at e3
    split at e3
    · cases e3
      rename_i n m _
      refine ⟨n, m, rb_int rb, by simpa [RV] using hz, ?_⟩
      exact OkS.ret (W := W) k2 (r1.setR (y := .fz (.int (n + m))) i (by simp [RR, RV]))
    · cases e3
theorem get_list : PGet X (L2.rIxL X.K) := by
  intro pins s σ H x y v u Q I rx ry h
  obtain ⟨p, xs, i, z, rfl, rfl, hq, he, q⟩ := h
  cases rx
  obtain ⟨t, rfl⟩ := ry
  obtain ⟨its, r, pl, hz⟩ := I.list hq
  obtain ⟨j, h1, h2, h3, h4, h5⟩ := L2.atI_get he
  obtain ⟨w, ew, rw'⟩ := r.get h2
  have hl := r.length
  have hn := L2.line63
  have fin : L2.EP X pins σ Q w s := ⟨z, H, I, rw', q⟩
  by_cases h0 : 0 ≤ i
  · have hj : i.toNat = j := by
      rw [seqIndex_of h0 h5] at h1
      exact Option.some.inj h1
    exact wpAny_getItem_list pl.isList h0 (by omega) (by rw [hj]; simpa using ew) fin
  · have hj : (i + (its.toArray.size : Int)).toNat = j := by
      rw [seqIndex_neg (by omega) h4] at h1
      rw [List.size_toArray, ← hl]
      exact Option.some.inj h1
    exact wpAny_getItem_list_neg pl.isList (by omega) (by rw [List.size_toArray] <;> omega) (by omega) (by rw [hj]; simpa using ew) fin
theorem augStore_ok {i : PySem.Expr} (h : notSlice i = true) (ov iv new : Value) : augStore i ov iv new = (do holding [new, ov, iv] (setItem ov iv new); release [new, ov, iv] []; pure .next) := by
  cases i <;> first | rfl | cases h
/-- o[i] += e of a shared list of ints -/
theorem ps_augSubM {o i e : PySem.Expr} {fo fi fe : Caller → M RVal} {tp : Pos} (ho : PE X o (tE X.K ga W (fo c))) (hi : PE X i (tE X.K ga W (fi c))) (he : PE X e (tE X.K ga W (fe c))) (hs : notSlice i = true) :
    PS X (.AugAssign (.Subscript o i tp) .Add e pos) (tS X.K ga W (bnd (valM (fo c)) fun o => bnd (valM (fi c)) fun i => bnd (getAtM o i) fun x => bnd (valM (fe c)) fun y => bnd (opt (addI x y)) fun z => nextM (setAtM o i z))) :=
  ps_imp (L2.ps_augS (pe_val ho) (pe_val hi) get_list (pe_val he) L2.ip_add L2.set_list (augStore_ok hs)) fun D σ H q => by
  obtain ⟨g, F, μ, ρ, S, r, q⟩ := q
  refine ⟨g, F, μ, ρ, S, r, Ok.imp (OkS.bndE σ q) fun vo F1 μ1 ρ1 S1 H1 l1 p1 r1 k xo ro => ?_⟩
  refine ⟨g, F1, μ1, ρ1, S1, r1, Ok.imp (OkS.bndE σ k) fun vi F2 μ2 ρ2 S2 H2 l2 p2 r2 k xi ri => ?_⟩
  have ro2 := ro.mono l2 p2
  unfold getAtM at k
  cases vo with
  | loc n =>
    simp only [RV] at ro2
    obtain ⟨a, rfl, ha⟩ := ro2
    cases vi with
    | int kx =>
      have exi : xi = .int kx := by simpa [RV] using ri
      subst exi
      cases e2 : S2[n]? with
      | none => simp only [Lk.bnd, e2] at k; exact k.elim
      | some m =>
        cases m with
        | lst vs =>
          cases h1 : L2.atI vs kx with
          | none => simp only [Lk.bnd, e2, h1] at k; exact k.elim
          | some w =>
            have k : OkS X.K ga W g F2 μ2 ((bnd (valM (fe c)) fun y => bnd (opt (addI w y)) fun z => nextM (setAtM (.loc n) (.int kx) z)) ρ2 S2) D := by
              simp only [Lk.bnd, e2, h1] at k
              exact k
            have kk := OkS.bndE σ k
            obtain ⟨b, e3, _, xs, h3, h4⟩ := pget r2.r0.mem e2
            rw [ha] at e3; cases e3
            obtain ⟨z, h5, h6⟩ := rvs_at h4 h1
            refine ⟨a, xs, kx, z, rfl, rfl, .inl (.inl h3), h5, g, F2, μ2, ρ2, S2, r2, Ok.imp kk fun vy F3 μ3 ρ3 S3 H3 l3 p3 r3 k3 y hy => ?_⟩
            obtain ⟨s, e4, k3⟩ := oks_opt k3
            cases w with
            | int nn =>
              cases vy with
              | int mm =>
                cases (Option.some.inj e4 : Val.int (nn + mm) = s)
                refine ⟨nn, mm, by simpa [RV] using h6, by simpa [RV] using hy, ?_⟩
                unfold nextM setAtM Lk.bnd at k3
                simp only at k3
                cases e5 : S3[n]? with
                | none => simp only [e5] at k3; exact k3.elim
                | some m3 =>
                  cases m3 with
                  | lst vs3 =>
                    simp only [e5] at k3
                    cases e6 : L2.ixN vs3.length kx with
                    | none => simp only [e6] at k3; exact k3.elim
                    | some j =>
                      simp only [e6] at k3
                      obtain ⟨b3, e7, _, xs3, h7, h8⟩ := pget r3.r0.mem e5
                      rw [p3 _ _ ha] at e7; cases e7
                      refine ⟨a, xs3, kx, j, rfl, rfl, h7, by rw [h8.length]; exact e6, ?_⟩
                      exact OkS.ret (W := W) k3 (r3.setMem e5 (p3 _ _ ha) h7 h8 (v := .int (nn + mm)) (by simp [RV]))
                  | dic _ => simp only [e5] at k3; exact k3.elim
                  | ins _ _ => simp only [e5] at k3; exact k3.elim
              | _ => cases e4
            | _ => cases e4
        | dic _ => simp only [Lk.bnd, e2] at k; exact k.elim
        | ins _ _ => simp only [Lk.bnd, e2] at k; exact k.elim
    | _ => exact False.elim k
  | _ => exact False.elim k
theorem noStar_any {a b : PySem.Expr} (ha : isStar a = false) (hb : isStar b = false) : ([a, b].any fun | .Starred .. => true | _ => false) = false := by
  cases a <;> first | (exact absurd (show true = false from ha) (by decide)) | (cases b <;> first | rfl | exact absurd (show true = false from hb) (by decide))
theorem swap2 {x y : Str} {px py pt pt2 : Pos} {kt k2 : Nat} {a b : PySem.Expr} (hk : X.env.scope.kind = .function) (hx : X.env.scope.names.lookup x = some .local) (hy : X.env.scope.names.lookup y = some .local) (hl : (py.line == px.line) = true) (hxy : x ≠ y)
    (ha : isStar a = false) (hb : isStar b = false) (hf : (foldedForSure 8 a && foldedForSure 8 b) = false) (hc : (constantsAlone 8 a && constantsAlone 8 b) = false) :
    swappedStores [.Tuple [.Name x px, .Name y py] kt pt] (.Tuple [a, b] k2 pt2) X.env = pure (some [x, y]) := by
  have kx : X.env.kindOf x = some .local := hx
  have ky : X.env.kindOf y = some .local := hy
  have hbk : X.env.blockKind = .function := by unfold PySem.Env.blockKind; rw [hk]; rfl
  have hs := noStar_any ha hb
  have hyx : (y == x) = false := by
    rw [beq_eq_false_iff_ne]
    exact fun e => hxy e.symm
  unfold swappedStores
  simp only [hbk, kx, ky, hl, List.length_cons, List.length_nil, List.head?_cons, Option.map_some, Option.getD_some, PySem.Expr.pos, List.filterMap_cons, List.filterMap_nil, List.all_cons, List.all_nil, Bool.and_true, hf, hc]
  simp [hl, hf, hc, hyx, List.eraseDups_cons]
  intro h
  simp only [List.any_cons, List.any_nil, Bool.or_false, Bool.or_eq_false_iff] at hs
  rcases h with h | h
  · exact absurd (h.symm.trans hs.1) (by decide)
  · exact absurd (h.symm.trans hs.2) (by decide)
/-- x, y = a, b -/
theorem ps_parM {i j : Nat} {x y : Str} {px py pt pt2 : Pos} {kt k2 : Nat} {a b : PySem.Expr} {fs : List (Caller → M RVal)} (hc : X.calm = true) (hN : X.N.Nodup) (hi : X.N[i]? = some x) (hj : X.N[j]? = some y) (hxl : X.env.scope.names.lookup x = some .local) (hyl : X.env.scope.names.lookup y = some .local) (hxy : x ≠ y)
    (ha : PA X [a, b] (tA X.K ga W (argsM c fs))) (hw : swappedStores [.Tuple [.Name x px, .Name y py] kt pt] (.Tuple [a, b] k2 pt2) X.env = pure (some [x, y])) :
    PS X (.Assign [.Tuple [.Name x px, .Name y py] kt pt] (.Tuple [a, b] k2 pt2) pos) (tS X.K ga W (bnd (argsM c fs) fun vs => store2 i j vs)) :=
  ps_imp (L2.ps_par hc hN hi hj (fun e => hxy (by rw [e] at hi; exact Option.some.inj (hi.symm.trans hj))) hxl hyl ha hw) fun D σ H q => by
  obtain ⟨g, F, μ, ρ, S, r, q⟩ := q
  refine ⟨g, F, μ, ρ, S, r, Ok.imp (OkS.bndE σ q) fun vs F1 μ1 ρ1 S1 H1 l p r1 k xs hx => ?_⟩
  cases vs with
  | nil => exact k.elim
  | cons v vs =>
    cases vs with
    | nil => exact k.elim
    | cons w vs =>
      cases vs with
      | cons _ _ => exact k.elim
      | nil =>
        obtain ⟨y1, ys, rfl, h1, h2⟩ := hx.cons_inv
        obtain ⟨y2, ys2, rfl, h3, h4⟩ := h2.cons_inv
        simp only [RVs] at h4
        subst h4
        refine ⟨y1, y2, rfl, ?_⟩
        have k2 : OkS X.K ga W g F1 μ1 (bnd (setS i (.pv v)) (fun _ => bnd (setS j (.pv w)) fun _ => Lk.ret .nx) ρ1 S1) D := k
        have k3 := oks_setS k2
        have k4 := oks_setS k3
        exact OkS.ret (W := W) k4 ((r1.setR (y := .fz v) i h1).setR (y := .fz w) j h3)
end
end Lk
end

section
set_option Elab.async false
set_option linter.all false
set_option maxRecDepth 100000
set_option maxHeartbeats 1000000
namespace Lk
open PySem PyProof.Rows
open L2 (V Hp HO upd upd_same upd_ne ne_of ne_of_none Key Rd SqL SqT VK XK WX TE TT TA TG TGs TS TI It Ends PE PT PA PS PSs PG PGs PI PTs PW PGet PSet PIp Cx Vis Loc Gl OpR CallR IxR SlR UnR Inv RelV Vals HOk ObjOk RelO FnOk Room wipe)

structure GlOk (P : Program) (w : World) (K : PySem.W.Frag) (mg : Str → Option Value) (base : Heap) (ga : GA) (gl : List (Str × GV)) (c : Caller) (k : Nat) : Prop where
  fns : ∀ x i np dfl, gl.lookup x = some (.fn i np dfl) → ∃ fd ps ds dvs, mg x = some (.ref (ga.fn i)) ∧ PySem.W.keepIn K (.ref (ga.fn i)) = true ∧
    FnOk P w K mg base (L2.CX P w) k (ga.fn i) fd ps (spC K ga c i np) ∧ L2.Binds K fd ps ds ∧ Vals dvs ds ∧ ∀ F μ, RVs K ga F μ dfl dvs
  csts : ∀ x v, gl.lookup x = some (.cst v) → ∃ y u, mg x = some u ∧ RelV y u ∧ ∀ F μ, RV K ga F μ v y
  blts : ∀ x, gl.lookup x = none → ((biV x).isSome = true ∨ x = "range") → mg x = none
structure Good (X : Cx) (ga : GA) (W : WX) (C : Ctx) (c : Caller) (k : Nat) : Prop where
  N : X.N = C.N
  nd : C.N.Nodup
  sc : X.env.scope = C.sc
  kind : C.sc.kind = .function
  calm : X.calm = true
  room : Room k X.A
  fn : ∀ x, C.sc.names.lookup x = some .cell → ownCell C.cells x = true → X.fn x = true
  tk : L2.Takes X W
  gl : GlOk X.prog X.w X.K X.mg X.base ga C.gl c k
theorem findIdx_some {N : List Str} {x : Str} {i : Nat} (h : N.findIdx? (fun y => decide (y = x)) = some i) : N[i]? = some x := by
  obtain ⟨hlt, h1, _⟩ := List.findIdx?_eq_some_iff_getElem.mp h
  rw [List.getElem?_eq_getElem hlt]
  simpa using h1
theorem okName_of {x : Str} (h : okName x = true) : (x == ("__debug__" : Str)) = false ∧ (x == ("__classdict__" : Str)) = false ∧ x ≠ ("__name__" : Str) := by
  simp only [okName, Bool.and_eq_true, Bool.not_eq_true', decide_eq_true_eq] at h
  exact ⟨h.1.1, h.1.2, h.2⟩
section
variable {X : Cx} {ga : GA} {W : WX} {C : Ctx} {c : Caller} {k : Nat}
theorem Good.units (G : Good X ga W C c k) : X.A.units + 64 < cLine := by
  have := G.room.un
  omega
theorem Good.nodup (G : Good X ga W C c k) : X.N.Nodup := by rw [G.N]; exact G.nd
theorem Good.slot (G : Good X ga W C c k) {x : Str} {i : Nat} (h : C.slot x = some i) : X.N[i]? = some x ∧ Vis X.env.scope x ∧ okName x = true := by
  unfold Ctx.slot at h
  rw [G.N, G.sc]
  split at h
  · rename_i e
    split at h
    · rename_i ho
      exact ⟨findIdx_some h, .inl e, ho⟩
    · cases h
  · rename_i e
    split at h
    · rename_i ho
      exact ⟨findIdx_some h, .inr (.inl e), ho⟩
    · cases h
  · rename_i e
    split at h
    · rename_i ho
      exact ⟨findIdx_some h, .inr (.inr e), ho⟩
    · cases h
  · cases h
theorem Good.own (G : Good X ga W C c k) {x : Str} {i : Nat} (h : C.own x = some i) : X.N[i]? = some x ∧ Loc X.env.scope x ∧ (X.fn x = true ∨ X.env.scope.names.lookup x = some .local) := by
  unfold Ctx.own at h
  rw [G.N, G.sc]
  split at h
  · rename_i e
    exact ⟨findIdx_some h, .inl e, .inr e⟩
  · rename_i e
    split at h
    · rename_i ho
      exact ⟨findIdx_some h, .inr e, .inl (G.fn x e ho)⟩
    · cases h
  · cases h
theorem Good.isGl (G : Good X ga W C c k) {x : Str} (h : C.isGl x = true) : Gl X x ∧ okName x = true := by
  simp only [Ctx.isGl, Bool.and_eq_true, decide_eq_true_eq] at h
  refine ⟨?_, h.2⟩
  show X.env.scope.names.lookup x = _
  rw [G.sc]
  exact h.1
theorem Good.blk (G : Good X ga W C c k) {scope : Scope} (hb : L2.blkC C.N C.sc scope (ownOf C.N scope) = true) (s : Shared) (H : Hp) (Ca : Addr) (cl : List (Str × Addr)) (fp : List Addr) : Good (X.blk s H scope (compEnvC scope cl Ca X.env) fp) ga W0 (C.blk scope) c k := by
  have ok := L2.blkOk_by hb
  refine ⟨G.N, G.nd, ?_, ok.kind, G.calm, G.room, fun x hx hc => ?_, ?_, G.gl⟩
  · show L2.relS scope X.env.scope = L2.relS scope C.sc
    rw [G.sc]
  · have hc' : (((scope.names.filter fun p => decide (p.2 = .cell)).map (·.1)).any fun y => decide (y = x)) = true := hc
    obtain ⟨y, hy, e⟩ := List.any_eq_true.mp hc'
    have e' : y = x := by simpa using e
    subst e'
    obtain ⟨p, hp, e2⟩ := List.mem_map.mp hy
    obtain ⟨h1, h2⟩ := List.mem_filter.mp hp
    have h3 := ok.uniq p h1
    have h4 : p.2 = .cell := by simpa using h2
    rw [h4, e2] at h3
    show (scope.names.lookup y == some .cell) = true
    rw [h3]
    rfl
  · intro u s' x
    obtain ⟨_, _, _, _, _, _, _, _, _, _, _, _, _, _, _, _, w⟩ := x
    exact w
end
section
variable (ga : GA)
def EOk (C : Ctx) (e : PySem.Expr) (f : Caller → M RVal) : Prop := ∀ X W c k, Good X ga W C c k → PE X e (tE X.K ga W (f c))
def OOk (C : Ctx) (e : PySem.Expr) (o : Opd) : Prop := ∀ X W c k, Good X ga W C c k → PE X e (tP X.K ga W c o)
def TOk (C : Ctx) (e : PySem.Expr) (f : Caller → M Bool) : Prop := ∀ X W c k, Good X ga W C c k → PT X e (tB X.K ga W (f c))
def TsOk (C : Ctx) (e : List PySem.Expr) (f : Caller → M Bool) : Prop := ∀ X W c k, Good X ga W C c k → PTs X e (tB X.K ga W (f c))
def GOk (C : Ctx) (e : PySem.Expr) (t : Tgt) : Prop := ∀ X W c k, Good X ga W C c k → PG X e (tG X.K ga t)
def IOk (C : Ctx) (e : PySem.Expr) (f : Caller → M (List Val)) : Prop := ∀ X W c k tg, Good X ga W C c k → PI X tg e (tI X.K ga W (f c))
structure IH (n : Nat) : Prop where
  E : ∀ C e f, denE n C e = some f → EOk ga C e f ∧ isStar e = false
  Es : ∀ C es fs, denEs n C es = some fs → Paired (fun e f => EOk ga C e f ∧ isStar e = false) es fs
  Ks : ∀ C ks fs, denKs n C ks = some fs → Paired (fun e f => ∃ e', e = some e' ∧ EOk ga C e' f) ks fs
  O : ∀ C e o, denO n C e = some o → OOk ga C e o ∧ isStar e = false
  Os : ∀ C es os, denOs n C es = some os → Paired (fun e o => OOk ga C e o ∧ isStar e = false) es os
  T : ∀ C e f, denT n C e = some f → TOk ga C e f
  Tl : ∀ C es fs, denTl n C es = some fs → Paired (fun e f => TOk ga C e f) es fs
  Ts : ∀ C es f, denTs n C es = some f → TsOk ga C es f
  G : ∀ C e t, denG n C e = some t → GOk ga C e t ∧ isStar e = false
  Gs : ∀ C es ts, denGs n C es = some ts → Paired (fun e t => GOk ga C e t ∧ isStar e = false) es ts
  I : ∀ C e f, denI n C e = some f → IOk ga C e f
end
section
variable {ga : GA} {n : Nat}
theorem noStar {C : Ctx} {e : PySem.Expr} {f : Caller → M RVal} (h : denE n C e = some f) : isStar e = false := by
  cases n with
  | zero => simp [denE] at h
  | succ n => cases e <;> first | rfl | (simp [denE] at h; done)
theorem noStarO {C : Ctx} {e : PySem.Expr} {f : Opd} (h : denO n C e = some f) : isStar e = false := by
  cases n with
  | zero => simp [denO] at h
  | succ n =>
    cases e <;> first | rfl | skip
    simp only [denO] at h
    obtain ⟨g, h1, _⟩ := Option.map_eq_some_iff.mp h
    exact noStar h1
theorem noSliceE {C : Ctx} {e : PySem.Expr} {f : Caller → M RVal} (h : denE n C e = some f) : notSlice e = true := by
  cases n with
  | zero => simp [denE] at h
  | succ n => cases e <;> first | rfl | (simp [denE] at h; done)
theorem noSliceO {C : Ctx} {e : PySem.Expr} {f : Opd} (h : denO n C e = some f) : ∀ x y z p, e ≠ .Slice x y z p := by
  cases n with
  | zero => simp [denO] at h
  | succ n =>
    intro x y z p he
    subst he
    simp only [denO] at h
    obtain ⟨g, h1, _⟩ := Option.map_eq_some_iff.mp h
    exact absurd (noSliceE h1) (by simp [notSlice])
theorem noSetE {C : Ctx} {e : PySem.Expr} {f : Caller → M RVal} (h : denE n C e = some f) (op : CmpOp) : behindInMarks op e = false := by
  cases n with
  | zero => simp [denE] at h
  | succ n => cases e <;> first | rfl | (simp [denE] at h; done)
theorem noSetO {C : Ctx} {e : PySem.Expr} {f : Opd} (h : denO n C e = some f) (op : CmpOp) : behindInMarks op e = false := by
  cases n with
  | zero => simp [denO] at h
  | succ n =>
    cases e <;> first | rfl | skip
    simp only [denO] at h
    obtain ⟨g, h1, _⟩ := Option.map_eq_some_iff.mp h
    exact noSetE h1 op
theorem noFoldE {C : Ctx} {e : PySem.Expr} {f : Caller → M RVal} (h : denE n C e = some f) (env : PySem.Env) (x : Value) : foldedSetIterable e env x = pure x := by
  cases n with
  | zero => simp [denE] at h
  | succ n => cases e <;> first | rfl | (simp [denE] at h; done)
theorem noFoldI {C : Ctx} {e : PySem.Expr} {f : Caller → M (List Val)} (h : denI n C e = some f) (env : PySem.Env) (x : Value) : foldedSetIterable e env x = pure x := by
  cases n with
  | zero => simp [denI] at h
  | succ n =>
    cases e <;> first | rfl | skip
    simp only [denI] at h
    obtain ⟨g, h1, _⟩ := Option.map_eq_some_iff.mp h
    exact noFoldE h1 env x
theorem pa_of {X : Cx} {W : WX} {C : Ctx} {c : Caller} {k : Nat} (G : Good X ga W C c k) : ∀ {es : List PySem.Expr} {fs : List (Caller → M RVal)}, Paired (fun e f => EOk ga C e f ∧ isStar e = false) es fs → PA X es (tA X.K ga W (argsM c fs)) ∧ ∀ e ∈ es, isStar e = false
  | _, _, .nil => ⟨pa_nilM, fun e h => by cases h⟩
  | _, _, .cons h t => ⟨pa_consM (h.1 X W c k G) (pa_of G t).1 (star_ok h.2), fun e he => by
      rcases List.mem_cons.mp he with rfl | he
      · exact h.2
      · exact (pa_of G t).2 e he⟩
theorem pao_of {X : Cx} {W : WX} {C : Ctx} {c : Caller} {k : Nat} (G : Good X ga W C c k) : ∀ {es : List PySem.Expr} {fs : List Opd}, Paired (fun e f => OOk ga C e f ∧ isStar e = false) es fs → PA X es (tPs X.K ga W c fs) ∧ ∀ e ∈ es, isStar e = false
  | _, _, .nil => ⟨pa_nilP, fun e h => by cases h⟩
  | _, _, .cons h t => ⟨pa_consP (h.1 X W c k G) (pao_of G t).1 (star_ok h.2), fun e he => by
      rcases List.mem_cons.mp he with rfl | he
      · exact h.2
      · exact (pao_of G t).2 e he⟩
theorem pe_of {X : Cx} {W : WX} {C : Ctx} {c : Caller} {k : Nat} (G : Good X ga W C c k) {es : List PySem.Expr} {fs : List (Caller → M RVal)} (h : Paired (fun e f => EOk ga C e f ∧ isStar e = false) es fs) : Paired (fun e f => PE X e (tE X.K ga W (f c))) es fs := pimp h fun e f _ _ h => h.1 X W c k G
theorem one_of {R : PySem.Expr → Opd → Prop} {a : PySem.Expr} {os : List Opd} (h : Paired R [a] os) : ∃ o, os = [o] ∧ R a o := by
  cases h with
  | cons h t => cases t; exact ⟨_, rfl, h⟩
theorem two_of {R : PySem.Expr → Opd → Prop} {a b : PySem.Expr} {os : List Opd} (h : Paired R [a, b] os) : ∃ o o', os = [o, o'] ∧ R a o ∧ R b o' := by
  cases h with
  | cons h t =>
    obtain ⟨o', e, h2⟩ := one_of t
    exact ⟨_, o', by rw [e], h, h2⟩
theorem step_Es (ih : IH ga n) (C : Ctx) (es : List PySem.Expr) (fs : List (Caller → M RVal)) (h : denEs (n + 1) C es = some fs) : Paired (fun e f => EOk ga C e f ∧ isStar e = false) es fs := by
  cases es with
  | nil => simp only [denEs] at h; cases h; exact .nil
  | cons e r =>
    simp only [denEs] at h
    obtain ⟨f, h1, h2⟩ := Option.bind_eq_some_iff.mp h
    obtain ⟨fs', h3, h4⟩ := Option.map_eq_some_iff.mp h2
    subst h4
    exact .cons (ih.E C e f h1) (ih.Es C r fs' h3)
theorem step_Ks (ih : IH ga n) (C : Ctx) (es : List (Option PySem.Expr)) (fs : List (Caller → M RVal)) (h : denKs (n + 1) C es = some fs) : Paired (fun e f => ∃ e', e = some e' ∧ EOk ga C e' f) es fs := by
  cases es with
  | nil => simp only [denKs] at h; cases h; exact .nil
  | cons e r =>
    cases e with
    | none => simp [denKs] at h
    | some e =>
      simp only [denKs] at h
      obtain ⟨f, h1, h2⟩ := Option.bind_eq_some_iff.mp h
      obtain ⟨fs', h3, h4⟩ := Option.map_eq_some_iff.mp h2
      subst h4
      exact .cons ⟨e, rfl, (ih.E C e f h1).1⟩ (ih.Ks C r fs' h3)
theorem step_Os (ih : IH ga n) (C : Ctx) (es : List PySem.Expr) (fs : List Opd) (h : denOs (n + 1) C es = some fs) : Paired (fun e f => OOk ga C e f ∧ isStar e = false) es fs := by
  cases es with
  | nil => simp only [denOs] at h; cases h; exact .nil
  | cons e r =>
    simp only [denOs] at h
    obtain ⟨f, h1, h2⟩ := Option.bind_eq_some_iff.mp h
    obtain ⟨fs', h3, h4⟩ := Option.map_eq_some_iff.mp h2
    subst h4
    exact .cons (ih.O C e f h1) (ih.Os C r fs' h3)
theorem step_Tl (ih : IH ga n) (C : Ctx) (es : List PySem.Expr) (fs : List (Caller → M Bool)) (h : denTl (n + 1) C es = some fs) : Paired (fun e f => TOk ga C e f) es fs := by
  cases es with
  | nil => simp only [denTl] at h; cases h; exact .nil
  | cons e r =>
    simp only [denTl] at h
    obtain ⟨f, h1, h2⟩ := Option.bind_eq_some_iff.mp h
    obtain ⟨fs', h3, h4⟩ := Option.map_eq_some_iff.mp h2
    subst h4
    exact .cons (ih.T C e f h1) (ih.Tl C r fs' h3)
theorem step_Gs (ih : IH ga n) (C : Ctx) (es : List PySem.Expr) (fs : List Tgt) (h : denGs (n + 1) C es = some fs) : Paired (fun e f => GOk ga C e f ∧ isStar e = false) es fs := by
  cases es with
  | nil => simp only [denGs] at h; cases h; exact .nil
  | cons e r =>
    simp only [denGs] at h
    obtain ⟨f, h1, h2⟩ := Option.bind_eq_some_iff.mp h
    obtain ⟨fs', h3, h4⟩ := Option.map_eq_some_iff.mp h2
    subst h4
    exact .cons (ih.G C e f h1) (ih.Gs C r fs' h3)
theorem pts_imp {X : Cx} {e : List PySem.Expr} {t t' : TT} (h : PTs X e t) (f : ∀ σ H Q, t' σ H Q → t σ H Q) : PTs X e t' := ⟨fun pins s σ H Q I q => h.run pins s σ H Q I (f σ H Q q)⟩
theorem step_Ts (ih : IH ga n) (C : Ctx) (es : List PySem.Expr) (f : Caller → M Bool) (h : denTs (n + 1) C es = some f) : TsOk ga C es f := by
  intro X W c k G
  cases es with
  | nil =>
    simp only [denTs] at h; cases h
    refine pts_imp L2.pts_nil fun σ H Q q => ?_
    obtain ⟨g, F, μ, ρ, S, r, q⟩ := q
    exact Ok.ret q r true rfl
  | cons e r =>
    cases r with
    | cons _ _ => simp [denTs] at h
    | nil =>
      simp only [denTs] at h
      exact L2.pts_one (ih.T C e f h X W c k G)
theorem pgs_of {X : Cx} {W : WX} {C : Ctx} {c : Caller} {k : Nat} (G : Good X ga W C c k) : ∀ {es : List PySem.Expr} {fs : List Tgt}, Paired (fun e f => GOk ga C e f ∧ isStar e = false) es fs → PGs X es (tGs X.K ga fs) ∧ (∀ e ∈ es, isStar e = false) ∧ es.length = fs.length
  | _, _, .nil => ⟨pgs_nilM, (fun e h => by cases h), rfl⟩
  | _, _, .cons h t => ⟨pgs_consM (h.1 X W c k G) (pgs_of G t).1 h.2, fun e he => by
      rcases List.mem_cons.mp he with rfl | he
      · exact h.2
      · exact (pgs_of G t).2.1 e he, by simp [(pgs_of G t).2.2]⟩
theorem step_G (ih : IH ga n) (C : Ctx) (e : PySem.Expr) (t : Tgt) (h : denG (n + 1) C e = some t) : GOk ga C e t ∧ isStar e = false := by
  unfold denG at h
  split at h
  · obtain ⟨i, h1, h2⟩ := Option.map_eq_some_iff.mp h
    subst h2
    exact ⟨fun X W c k G => let ⟨a, b, d⟩ := G.own h1; pg_nameM G.nodup a b d, rfl⟩
  · obtain ⟨i, h1, h2⟩ := Option.map_eq_some_iff.mp h
    subst h2
    refine ⟨fun X W c k G => ?_, rfl⟩
    obtain ⟨a, b, d⟩ := pgs_of G (ih.Gs C _ _ h1)
    exact pg_tupM G.calm a b d
  · cases h
theorem step_O (ih : IH ga n) (C : Ctx) (e : PySem.Expr) (o : Opd) (h : denO (n + 1) C e = some o) : OOk ga C e o ∧ isStar e = false := by
  refine ⟨fun X W c k G => ?_, noStarO h⟩
  unfold denO at h
  split at h
  · split at h
    · rename_i e1
      cases h
      obtain ⟨a, b, d⟩ := G.slot e1
      obtain ⟨d1, d2, _⟩ := okName_of d
      exact pe_nameP a b d1 d2
    · obtain ⟨f, h1, h2⟩ := Option.map_eq_some_iff.mp h
      subst h2
      exact pe_opd (pe_val ((ih.E C _ f h1).1 X W c k G))
  · obtain ⟨f, h1, h2⟩ := Option.map_eq_some_iff.mp h
    subst h2
    exact pe_opd (pe_val ((ih.E C _ f h1).1 X W c k G))
theorem step_I (ih : IH ga n) (C : Ctx) (e : PySem.Expr) (f : Caller → M (List Val)) (h : denI (n + 1) C e = some f) : IOk ga C e f := by
  intro X W c k tg G
  unfold denI at h
  split at h
  · split at h
    · rename_i hx
      simp only [Bool.and_eq_true, decide_eq_true_eq, Ctx.blt, Option.isNone_iff_eq_none] at hx
      obtain ⟨⟨h1, h2⟩, h3⟩ := hx
      split at h
      rotate_left
      · cases h
      rename_i hlen
      obtain ⟨os, h4, h5⟩ := Option.map_eq_some_iff.mp h
      subst h3 h5
      obtain ⟨hg, _⟩ := G.isGl h1
      have hm := G.gl.blts _ h2 (.inr rfl)
      have hp := ih.Os C _ _ h4
      obtain ⟨pa, st⟩ := pao_of G hp
      cases hp with
      | nil =>
        refine ⟨fun pins s σ H R I q => ?_⟩
        obtain ⟨g, F, μ, ρ, S, r, q⟩ := q
        exact q.elim
      | cons p1 t =>
        cases t with
        | nil => exact pi_range1M hg hm pa (st _ (by simp))
        | cons p2 t =>
          cases t with
          | nil => exact pi_range2M hg hm pa (st _ (by simp)) (st _ (by simp))
          | cons p3 t => simp at hlen
    · obtain ⟨g, h4, h5⟩ := Option.map_eq_some_iff.mp h
      subst h5
      exact pi_seqM ((ih.E C _ g h4).1 X W c k G)
  · obtain ⟨g, h4, h5⟩ := Option.map_eq_some_iff.mp h
    subst h5
    exact pi_seqM ((ih.E C _ g h4).1 X W c k G)
theorem step_T (ih : IH ga n) (C : Ctx) (e : PySem.Expr) (f : Caller → M Bool) (h : denT (n + 1) C e = some f) : TOk ga C e f := by
  intro X W c k G
  have hu := G.units
  unfold denT at h
  split at h
  · -- BoolOp
    obtain ⟨fs, h1, h2⟩ := Option.map_eq_some_iff.mp h
    subst h2
    have p := pimp (ih.Tl C _ fs h1) fun e f _ _ h => h X W c k G
    cases p with
    | nil =>
      refine ⟨fun pins s σ H Q I q => ?_⟩
      obtain ⟨g, F, μ, ρ, S, r, q⟩ := q
      exact q.elim
    | cons a t => exact pw_pt (pw_boolT (.cons a t) (by simp))
  · obtain ⟨g, h1, h2⟩ := Option.map_eq_some_iff.mp h
    subst h2
    exact pt_notM (ih.T C _ g h1 X W c k G)
  · cases h
  · rename_i a b pos
    split at h
    rotate_left
    · cases h
    rename_i hb
    obtain ⟨os, h1, h2⟩ := Option.map_eq_some_iff.mp h
    subst h2
    obtain ⟨o, rfl, p1, _⟩ := one_of (ih.Os C _ os h1)
    unfold isNonC at hb
    split at hb
    rotate_left
    · cases hb
    exact pt_isN (p1 X W c k G)
  · rename_i a b pos
    split at h
    rotate_left
    · cases h
    rename_i hb
    obtain ⟨os, h1, h2⟩ := Option.map_eq_some_iff.mp h
    subst h2
    obtain ⟨o, rfl, p1, _⟩ := one_of (ih.Os C _ os h1)
    unfold isNonC at hb
    split at hb
    rotate_left
    · cases hb
    exact pt_notN (p1 X W c k G)
  · obtain ⟨p, h1, h2⟩ := Option.bind_eq_some_iff.mp h
    obtain ⟨os, h3, h4⟩ := Option.map_eq_some_iff.mp h2
    subst h4
    obtain ⟨o, o', rfl, p1, p2⟩ := two_of (ih.Os C _ os h3)
    refine pt_cmpM hu h1 (p1.1 X W c k G) (p2.1 X W c k G) ?_
    cases n with
    | zero => simp [denOs] at h3
    | succ n =>
      simp only [denOs] at h3
      obtain ⟨f1, h4, h5⟩ := Option.bind_eq_some_iff.mp h3
      obtain ⟨fs', h6, h7⟩ := Option.map_eq_some_iff.mp h5
      cases n with
      | zero => simp [denOs] at h6
      | succ n =>
        simp only [denOs] at h6
        obtain ⟨f2, h8, h9⟩ := Option.bind_eq_some_iff.mp h6
        exact noSetO h8 _
  · cases h
  · rename_i h1 h2 h3 h4 h5 h6 h7
    obtain ⟨g, h8, h9⟩ := Option.map_eq_some_iff.mp h
    subst h9
    refine pt_truM ((ih.E C _ g h8).1 X W c k G) ?_
    intro whole
    cases e <;> first | rfl | skip
    · exact absurd rfl (h1 _ _ _)
    · rename_i op a p
      cases op <;> first | rfl | exact absurd rfl (h2 _ _)
    · exact absurd rfl (h3 _ _ _ _)
    · exact absurd rfl (h7 _ _ _ _)
theorem noSetOs {C : Ctx} {a b : PySem.Expr} {os : List Opd} (h : denOs n C [a, b] = some os) (op : CmpOp) : behindInMarks op b = false ∧ ∀ x y z p, b ≠ .Slice x y z p := by
  cases n with
  | zero => simp [denOs] at h
  | succ n =>
    simp only [denOs] at h
    obtain ⟨f1, h4, h5⟩ := Option.bind_eq_some_iff.mp h
    obtain ⟨fs', h6, h7⟩ := Option.map_eq_some_iff.mp h5
    cases n with
    | zero => simp [denOs] at h6
    | succ n =>
      simp only [denOs] at h6
      obtain ⟨f2, h8, h9⟩ := Option.bind_eq_some_iff.mp h6
      exact ⟨noSetO h8 _, noSliceO h8⟩
theorem pps_of {X : Cx} {W : WX} {C : Ctx} {c : Caller} {k : Nat} {pos : Pos} (G : Good X ga W C c k) : ∀ {ks : List (Option PySem.Expr)} {fk : List (Caller → M RVal)} {vs : List PySem.Expr} {fv : List (Caller → M RVal)},
    Paired (fun e f => ∃ e', e = some e' ∧ EOk ga C e' f) ks fk → Paired (fun e f => EOk ga C e f ∧ isStar e = false) vs fv → ks.length = vs.length → L2.PPs X pos ks vs (trs X.K ga W c (fk.zip fv)) ∧ ks.all (·.isSome) = true ∧ (fk.zip fv).length = ks.length
  | _, _, _, _, .nil, .nil, _ => ⟨L2.pps_nil, rfl, rfl⟩
  | _, _, _, _, .nil, .cons _ _, h => by simp at h
  | _, _, _, _, .cons _ _, .nil, h => by simp at h
  | _, _, _, _, .cons hk tk, .cons hv tv, h => by
    obtain ⟨e', rfl, ek⟩ := hk
    obtain ⟨i1, i2, i3⟩ := pps_of G (pos := pos) tk tv (by simpa using h)
    refine ⟨L2.pps_cons (pe_val (ek X W c k G)) (pe_val (hv.1 X W c k G)) i1, ?_, ?_⟩
    · simp only [List.all_cons, i2, Option.isSome_some, Bool.and_self]
    · simp only [List.zip_cons_cons, List.length_cons, i3]
theorem biV_nil {x : Str} {p : List Val → Option RVal} (h : biV x = some p) : p [] = none := by
  unfold biV at h
  repeat' split at h
  all_goals first | (cases h; rfl) | cases h
theorem step_E (ih : IH ga n) (C : Ctx) (e : PySem.Expr) (f : Caller → M RVal) (h : denE (n + 1) C e = some f) : EOk ga C e f := by
  intro X W c k G
  have hu := G.units
  unfold denE at h
  split at h
  · -- Name
    split at h
    · rename_i e1
      cases h
      obtain ⟨a, b, d⟩ := G.slot e1
      obtain ⟨d1, d2, _⟩ := okName_of d
      exact pe_name a b d1 d2
    · split at h
      rotate_left
      · cases h
      rename_i hg
      obtain ⟨hgl, hn⟩ := G.isGl hg
      obtain ⟨d1, d2, _⟩ := okName_of hn
      split at h
      · rename_i v e2
        cases h
        obtain ⟨y, u, h1, h2, h3⟩ := G.gl.csts _ _ e2
        exact pe_const (L2.pe_glob hgl h1 h2 d1) h3
      · rename_i i np dfl e2
        cases h
        obtain ⟨fd, ps, ds, dvs, h1, _⟩ := G.gl.fns _ _ _ _ e2
        exact pe_const (L2.pe_glob (v := .ref (ga.fn i)) hgl h1 rfl d1) fun F μ => by simp [RV]
      · cases h
  · -- Constant
    rename_i cst p2 pos
    obtain ⟨v, h1, h2⟩ := Option.map_eq_some_iff.mp h
    subst h2
    cases cst <;> simp only [constV] at h1 <;> first | (cases h1; done) | skip
    all_goals (cases h1)
    · exact pe_const L2.pe_non fun F μ => by simp [RV]
    · exact pe_const L2.pe_bl fun F μ => by simp [RV]
    · exact pe_const L2.pe_int fun F μ => by simp [RV]
    · exact pe_const L2.pe_str fun F μ => by simp [RV]
  · obtain ⟨fs, h1, h2⟩ := Option.map_eq_some_iff.mp h
    subst h2
    exact pe_tupM (pa_of G (ih.Es C _ fs h1)).1
  · obtain ⟨fs, h1, h2⟩ := Option.map_eq_some_iff.mp h
    subst h2
    exact pe_lstM (pa_of G (ih.Es C _ fs h1)).1
  · -- Dict
    split at h
    rotate_left
    · cases h
    rename_i hl
    simp only [Bool.and_eq_true, decide_eq_true_eq, beq_iff_eq] at hl
    obtain ⟨fk, h1, h2⟩ := Option.bind_eq_some_iff.mp h
    obtain ⟨fv, h3, h4⟩ := Option.map_eq_some_iff.mp h2
    subst h4
    have pk := ih.Ks C _ fk h1
    have pv := ih.Es C _ fv h3
    obtain ⟨i1, i2, i3⟩ := pps_of G pk pv hl.2
    rename_i ks vs pos
    by_cases h0 : ks = []
    · subst h0
      cases pk
      have : vs = [] := List.eq_nil_of_length_eq_zero hl.2.symm
      subst this
      cases pv
      exact pe_dict0
    · exact pe_dispM i1 i2 hl.2 h0 hl.1 (by rw [i3]; exact hl.1)
  · obtain ⟨p, h1, h2⟩ := Option.bind_eq_some_iff.mp h
    obtain ⟨os, h3, h4⟩ := Option.map_eq_some_iff.mp h2
    subst h4
    obtain ⟨o, o', rfl, p1, p2⟩ := two_of (ih.Os C _ os h3)
    exact pe_binM hu h1 (p1.1 X W c k G) (p2.1 X W c k G)
  · obtain ⟨g, h1, h2⟩ := Option.map_eq_some_iff.mp h
    subst h2
    exact pe_notM ((ih.E C _ g h1).1 X W c k G)
  · obtain ⟨os, h1, h2⟩ := Option.map_eq_some_iff.mp h
    subst h2
    obtain ⟨o, rfl, p1, _⟩ := one_of (ih.Os C _ os h1)
    exact pe_negM (p1 X W c k G)
  · split at h
    rotate_left
    · cases h
    rename_i hb
    obtain ⟨os, h1, h2⟩ := Option.map_eq_some_iff.mp h
    subst h2
    obtain ⟨o, rfl, p1, _⟩ := one_of (ih.Os C _ os h1)
    unfold isNonC at hb
    split at hb
    rotate_left
    · cases hb
    exact pe_isN (p1 X W c k G)
  · split at h
    rotate_left
    · cases h
    rename_i hb
    obtain ⟨os, h1, h2⟩ := Option.map_eq_some_iff.mp h
    subst h2
    obtain ⟨o, rfl, p1, _⟩ := one_of (ih.Os C _ os h1)
    unfold isNonC at hb
    split at hb
    rotate_left
    · cases hb
    exact pe_notN (p1 X W c k G)
  · obtain ⟨p, h1, h2⟩ := Option.bind_eq_some_iff.mp h
    obtain ⟨os, h3, h4⟩ := Option.map_eq_some_iff.mp h2
    subst h4
    obtain ⟨o, o', rfl, p1, p2⟩ := two_of (ih.Os C _ os h3)
    exact pe_cmpM hu h1 (p1.1 X W c k G) (p2.1 X W c k G) (noSetOs h3 _).1
  · -- BoolOp
    obtain ⟨fs, h1, h2⟩ := Option.map_eq_some_iff.mp h
    subst h2
    have p := pe_of G (ih.Es C _ fs h1)
    cases p with
    | nil =>
      refine ⟨fun pins s σ H Q I q => ?_⟩
      obtain ⟨g, F, μ, ρ, S, r, q⟩ := q
      exact q.elim
    | cons a t => exact pe_boolM (.cons a t) (by simp)
  · obtain ⟨ft, h1, h2⟩ := Option.bind_eq_some_iff.mp h
    obtain ⟨fa, h3, h4⟩ := Option.bind_eq_some_iff.mp h2
    obtain ⟨fb, h5, h6⟩ := Option.map_eq_some_iff.mp h4
    subst h6
    exact pe_ifM (ih.T C _ ft h1 X W c k G) ((ih.E C _ fa h3).1 X W c k G) ((ih.E C _ fb h5).1 X W c k G)
  · split at h
    rotate_left
    · cases h
    rename_i hb
    obtain ⟨os, h1, h2⟩ := Option.map_eq_some_iff.mp h
    subst h2
    obtain ⟨o, rfl, p1, _⟩ := one_of (ih.Os C _ os h1)
    unfold isM1 at hb
    split at hb
    rotate_left
    · cases hb
    rename_i i _ _ _
    have : i = 1 := by simpa using hb
    subst this
    exact pe_revM (p1 X W c k G)
  · obtain ⟨os, h1, h2⟩ := Option.map_eq_some_iff.mp h
    subst h2
    obtain ⟨o, rfl, p1, _⟩ := one_of (ih.Os C _ os h1)
    exact pe_sl00 (p1 X W c k G)
  · obtain ⟨os, h1, h2⟩ := Option.map_eq_some_iff.mp h
    subst h2
    obtain ⟨o, o', rfl, p1, p2⟩ := two_of (ih.Os C _ os h1)
    exact pe_sl10 (p1.1 X W c k G) (p2.1 X W c k G)
  · obtain ⟨os, h1, h2⟩ := Option.map_eq_some_iff.mp h
    subst h2
    obtain ⟨o, o', rfl, p1, p2⟩ := two_of (ih.Os C _ os h1)
    exact pe_sl01 (p1.1 X W c k G) (p2.1 X W c k G)
  · obtain ⟨o, h1, h2⟩ := Option.bind_eq_some_iff.mp h
    obtain ⟨fl, h3, h4⟩ := Option.bind_eq_some_iff.mp h2
    obtain ⟨fh, h5, h6⟩ := Option.map_eq_some_iff.mp h4
    subst h6
    exact pe_sl11 ((ih.O C _ o h1).1 X W c k G) ((ih.E C _ fl h3).1 X W c k G) ((ih.E C _ fh h5).1 X W c k G)
  · obtain ⟨os, h1, h2⟩ := Option.map_eq_some_iff.mp h
    subst h2
    obtain ⟨o, o', rfl, p1, p2⟩ := two_of (ih.Os C _ os h1)
    exact pe_ixM hu (p1.1 X W c k G) (p2.1 X W c k G) (plain_ix (noSetOs h1 .In).2)
  · -- Call
    split at h
    · cases h
    split at h
    rotate_left
    · cases h
    rename_i hg
    obtain ⟨hgl, hn⟩ := G.isGl hg
    obtain ⟨d1, d2, _⟩ := okName_of hn
    split at h
    · rename_i i np dfl e2
      obtain ⟨fs, h1, h2⟩ := Option.map_eq_some_iff.mp h
      subst h2
      obtain ⟨fd, ps, ds, dvs, m1, m2, m3, m4, m5, m6⟩ := G.gl.fns _ _ _ _ e2
      have hp := ih.Es C _ fs h1
      obtain ⟨pa, st⟩ := pa_of G hp
      cases hp with
      | nil => exact pe_callM0 G.tk m3 G.room hgl m1 m2 m4 m5 m6 d1
      | cons a t => exact pe_callM G.tk m3 G.room hgl m1 m2 m4 m5 m6 d1 pa st (by simp)
    · cases h
    · rename_i e2
      obtain ⟨p, h1, h2⟩ := Option.bind_eq_some_iff.mp h
      obtain ⟨os, h3, h4⟩ := Option.map_eq_some_iff.mp h2
      subst h4
      have hm := G.gl.blts _ e2 (.inl (by rw [h1]; rfl))
      have hp := ih.Os C _ os h3
      obtain ⟨pa, st⟩ := pao_of G hp
      cases hp with
      | nil =>
        refine ⟨fun pins s σ H Q I q => ?_⟩
        obtain ⟨g, F, μ, ρ, S, r, q⟩ := q
        obtain ⟨rv, e3, _⟩ := app_ok (Ok.ret (Ok.bnd q) r)
        have e4 : p [] = some rv := e3
        rw [biV_nil h1] at e4
        cases e4
      | cons a t => exact pe_biM G.calm h1 hgl hm pa (by simp) st
  · -- ListComp
    rename_i elt tg it ifs scope pos
    dsimp only at h
    split at h
    rotate_left
    · cases h
    rename_i hb
    obtain ⟨fi, h1, h2⟩ := Option.bind_eq_some_iff.mp h
    obtain ⟨g, h3, h4⟩ := Option.bind_eq_some_iff.mp h2
    obtain ⟨ft, h5, h6⟩ := Option.bind_eq_some_iff.mp h4
    obtain ⟨fe, h7, h8⟩ := Option.bind_eq_some_iff.mp h6
    split at h8
    rotate_left
    · cases h8
    rename_i hown
    cases h8
    have ok : L2.BlkOk X.N X.env.scope scope (ownOf C.N scope) := by rw [G.N, G.sc]; exact L2.blkOk_by hb
    refine pe_compM G.calm G.nodup (ih.I C _ fi h1 X W c k _ G) ok (fun s H Ca cl fp => (ih.G _ _ g h3).1 _ _ c k (G.blk hb s H Ca cl fp)) (fun s H Ca cl fp => ih.Ts _ _ ft h5 _ _ c k (G.blk hb s H Ca cl fp)) (fun s H Ca cl fp => (ih.E _ _ fe h7).1 _ _ c k (G.blk hb s H Ca cl fp)) (fun x => noFoldI h1 _ _) ?_
    intro i hi
    have := List.all_eq_true.mp hown i hi
    simpa using this
  · cases h
end
end Lk
end

section
set_option Elab.async false
set_option linter.all false
set_option maxRecDepth 100000
set_option maxHeartbeats 1000000
namespace Lk
open PySem PyProof.Rows
open L2 (V Hp HO upd upd_same upd_ne ne_of ne_of_none Key Rd SqL SqT VK XK WX TE TT TA TG TGs TS TI It Ends PE PT PA PS PSs PG PGs PI PTs PW PGet PSet PIp Cx Vis Loc Gl OpR CallR IxR SlR UnR Inv RelV Vals HOk ObjOk RelO FnOk Room wipe)

section
variable (ga : GA)
theorem ih_all : ∀ n, IH ga n
  | 0 => ⟨fun _ _ _ h => by simp [denE] at h, fun _ _ _ h => by simp [denEs] at h, fun _ _ _ h => by simp [denKs] at h, fun _ _ _ h => by simp [denO] at h, fun _ _ _ h => by simp [denOs] at h, fun _ _ _ h => by simp [denT] at h,
      fun _ _ _ h => by simp [denTl] at h, fun _ _ _ h => by simp [denTs] at h, fun _ _ _ h => by simp [denG] at h, fun _ _ _ h => by simp [denGs] at h, fun _ _ _ h => by simp [denI] at h⟩
  | n + 1 => have ih := ih_all n
    ⟨fun C e f h => ⟨step_E ih C e f h, noStar h⟩, step_Es ih, step_Ks ih, step_O ih, step_Os ih, step_T ih, step_Tl ih, step_Ts ih, step_G ih, step_Gs ih, step_I ih⟩
end
section
variable {ga : GA} {n : Nat}
theorem comp_inv {C : Ctx} {elt : PySem.Expr} {gens : List Comprehension} {scope : Scope} {p : Pos} {f : Caller → M RVal} (h : denE n C (.ListComp elt gens scope p) = some f) :
    ∃ m t it ifs fi g ft fe, gens = [⟨t, it, ifs, 0⟩] ∧ L2.blkC C.N C.sc scope (ownOf C.N scope) = true ∧ denI m C it = some fi ∧ denG m (C.blk scope) t = some g ∧ denTs m (C.blk scope) ifs = some ft ∧ denE m (C.blk scope) elt = some fe ∧
      (∀ i ∈ tgtIx g, i ∈ (ownOf C.N scope).map (·.2)) ∧ f = compM fi ((ownOf C.N scope).map (·.2)) g ft fe := by
  cases n with
  | zero => simp [denE] at h
  | succ n =>
    cases gens with
    | nil => simp [denE] at h
    | cons gn r =>
      cases r with
      | cons _ _ => simp [denE] at h
      | nil =>
        obtain ⟨t, it, ifs, a⟩ := gn
        by_cases ha : a = 0
        · subst ha
          simp only [denE] at h
          split at h
          rotate_left
          · cases h
          rename_i hb
          obtain ⟨fi, h1, h2⟩ := Option.bind_eq_some_iff.mp h
          obtain ⟨g, h3, h4⟩ := Option.bind_eq_some_iff.mp h2
          obtain ⟨ft, h5, h6⟩ := Option.bind_eq_some_iff.mp h4
          obtain ⟨fe, h7, h8⟩ := Option.bind_eq_some_iff.mp h6
          split at h8
          rotate_left
          · cases h8
          rename_i hown
          cases h8
          refine ⟨n, t, it, ifs, fi, g, ft, fe, rfl, hb, h1, h3, h5, h7, ?_, rfl⟩
          intro i hi
          have := List.all_eq_true.mp hown i hi
          simpa using this
        · simp [denE, ha] at h
def SOk (ga : GA) (C : Ctx) (s : Stmt) (f : Caller → M Flow) : Prop := ∀ X W c k, Good X ga W C c k → PassesOwn (model X.prog X.w) X.A X.env X.xe → PS X s (tS X.K ga W (f c))
def SsOk (ga : GA) (C : Ctx) (s : List Stmt) (f : Caller → M Flow) : Prop := ∀ X W c k, Good X ga W C c k → PassesOwn (model X.prog X.w) X.A X.env X.xe → PSs X s (tS X.K ga W (f c))
structure IS (ga : GA) (n : Nat) : Prop where
  S : ∀ C s f, denS n C s = some f → SOk ga C s f
  Ss : ∀ C s f, denSs n C s = some f → SsOk ga C s f
theorem noSwap {X : Cx} {ts : List PySem.Expr} {k : Nat} {p : Pos} {e : PySem.Expr} (h : isTup e = false) : swappedStores [.Tuple ts k p] e X.env = pure none := by
  cases e <;> first | rfl | cases h
theorem step_S (ih : IS ga n) (C : Ctx) (s : Stmt) (f : Caller → M Flow) (h : denS (n + 1) C s = some f) : SOk ga C s f := by
  intro X W c k G hp
  have ihE := ih_all ga n
  unfold denS at h
  split at h
  · cases h; exact ps_passM
  · cases h; exact ps_breakM
  · cases h; exact ps_contM
  · cases h; exact ps_retNM
  · split at h
    · split at h
      · rename_i e1
        cases h
        obtain ⟨a, b, d⟩ := G.slot e1
        obtain ⟨d1, d2, _⟩ := okName_of d
        exact ps_retSlot a b d1 d2
      · obtain ⟨g, h1, h2⟩ := Option.map_eq_some_iff.mp h
        subst h2
        exact ps_retM ((ihE.E C _ g h1).1 X W c k G)
    · obtain ⟨g, h1, h2⟩ := Option.map_eq_some_iff.mp h
      subst h2
      exact ps_retM ((ihE.E C _ g h1).1 X W c k G)
  · cases h; exact ps_docM
  · -- name = e
    rename_i x p2 e p
    obtain ⟨i, h1, h2⟩ := Option.bind_eq_some_iff.mp h
    obtain ⟨g, h3, h4⟩ := Option.map_eq_some_iff.mp h2
    subst h4
    obtain ⟨a, b, d⟩ := G.own h1
    by_cases hc : isComp e = true
    · cases e with
      | ListComp elt gens scope cp =>
        obtain ⟨m, t, it, ifs, fi, gg, ft, fe, rfl, hb, i1, i3, i5, i7, i8, rfl⟩ := comp_inv h3
        have ihM := ih_all ga m
        have ok : L2.BlkOk X.N X.env.scope scope (ownOf C.N scope) := by rw [G.N, G.sc]; exact L2.blkOk_by hb
        have hsw : swapsWith (.ListComp elt [⟨t, it, ifs, 0⟩] scope cp) (some (.Name x p2)) p.line X.env = pure (X.env.blockKind == .function && X.env.kindOf x == some .local && p2.line == cp.line && !(scope.names.any fun (n, k) => n == x && (k == .local || k == .cell))) := rfl
        cases hcond : (X.env.blockKind == .function && X.env.kindOf x == some .local && p2.line == cp.line && !(scope.names.any fun (n, k) => n == x && (k == .local || k == .cell))) with
        | false =>
          rw [hcond] at hsw
          exact ps_setM G.nodup a b d ((ihE.E C _ _ h3).1 X W c k G) hsw
        | true =>
          rw [hcond] at hsw
          have hl : X.env.scope.names.lookup x = some .local := by
            simp only [Bool.and_eq_true, beq_iff_eq] at hcond
            exact hcond.1.1.2
          exact ps_setCompM G.calm G.nodup a hl hsw (ihM.I C _ fi i1 X W c k _ G) ok (fun s H Ca cl fp => (ihM.G _ _ gg i3).1 _ _ c k (G.blk hb s H Ca cl fp)) (fun s H Ca cl fp => ihM.Ts _ _ ft i5 _ _ c k (G.blk hb s H Ca cl fp)) (fun s H Ca cl fp => (ihM.E _ _ fe i7).1 _ _ c k (G.blk hb s H Ca cl fp)) (fun x => noFoldI i1 _ _) i8
      | SetComp _ _ _ _ => cases n <;> simp [denE] at h3
      | DictComp _ _ _ _ _ => cases n <;> simp [denE] at h3
      | _ => cases hc
    · exact ps_setM G.nodup a b d ((ihE.E C _ g h3).1 X W c k G) (swaps_no (by simpa using hc) _ _)
  · split at h
    rotate_left
    · cases h
    rename_i hpar
    obtain ⟨i, h1, h2⟩ := Option.bind_eq_some_iff.mp h
    obtain ⟨j, h3, h4⟩ := Option.bind_eq_some_iff.mp h2
    obtain ⟨fs, h5, h6⟩ := Option.map_eq_some_iff.mp h4
    subst h6
    simp only [par2, Bool.and_eq_true, decide_eq_true_eq, Bool.not_eq_true'] at hpar
    obtain ⟨⟨⟨⟨⟨⟨⟨p1, p2⟩, p3⟩, p4⟩, p5⟩, p6⟩, p7⟩, p8⟩ := hpar
    rw [← G.sc] at p1 p2
    exact ps_parM G.calm G.nodup (G.own h1).1 (G.own h3).1 p1 p2 p4 (pa_of G (ihE.Es C _ fs h5)).1 (swap2 (by rw [G.sc]; exact G.kind) p1 p2 p3 p4 p5 p6 p7 p8)
  · split at h
    · cases h
    rename_i hc
    simp only [Bool.or_eq_true, not_or, Bool.not_eq_true] at hc
    obtain ⟨gs, h1, h2⟩ := Option.bind_eq_some_iff.mp h
    obtain ⟨g, h3, h4⟩ := Option.map_eq_some_iff.mp h2
    subst h4
    obtain ⟨a, b, d⟩ := pgs_of G (ihE.Gs C _ gs h1)
    exact ps_asgTupM ((ihE.E C _ g h3).1 X W c k G) (pg_tupM G.calm a b d) hc.2 (noSwap hc.1)
  · split at h
    · cases h
    rename_i hs
    obtain ⟨fo, h1, h2⟩ := Option.bind_eq_some_iff.mp h
    obtain ⟨fi, h3, h4⟩ := Option.bind_eq_some_iff.mp h2
    obtain ⟨fe, h5, h6⟩ := Option.map_eq_some_iff.mp h4
    subst h6
    exact ps_augSubM ((ihE.E C _ fo h1).1 X W c k G) ((ihE.E C _ fi h3).1 X W c k G) ((ihE.E C _ fe h5).1 X W c k G) (by simpa using hs)
  · obtain ⟨i, h1, h2⟩ := Option.bind_eq_some_iff.mp h
    obtain ⟨g, h3, h4⟩ := Option.map_eq_some_iff.mp h2
    subst h4
    obtain ⟨a, b, d⟩ := G.own h1
    exact ps_augM G.nodup a b d ((ihE.E C _ g h3).1 X W c k G)
  · obtain ⟨fi, h1, h2⟩ := Option.bind_eq_some_iff.mp h
    obtain ⟨g, h3, h4⟩ := Option.bind_eq_some_iff.mp h2
    obtain ⟨fb, h5, h6⟩ := Option.map_eq_some_iff.mp h4
    subst h6
    exact ps_forM hp G.calm (ihE.I C _ fi h1 X W c k _ G) ((ihE.G C _ g h3).1 X W c k G) (ih.Ss C _ fb h5 X W c k G hp) (fun x => noFoldI h1 _ _)
  · obtain ⟨ft, h1, h2⟩ := Option.bind_eq_some_iff.mp h
    obtain ⟨fb, h3, h4⟩ := Option.map_eq_some_iff.mp h2
    subst h4
    exact ps_whileM hp (ihE.T C _ ft h1 X W c k G) (ih.Ss C _ fb h3 X W c k G hp) fuelW
  · obtain ⟨ft, h1, h2⟩ := Option.bind_eq_some_iff.mp h
    obtain ⟨fb, h3, h4⟩ := Option.bind_eq_some_iff.mp h2
    obtain ⟨fo, h5, h6⟩ := Option.map_eq_some_iff.mp h4
    subst h6
    exact ps_ifM (ihE.T C _ ft h1 X W c k G) (ih.Ss C _ fb h3 X W c k G hp) (ih.Ss C _ fo h5 X W c k G hp)
  · cases h
theorem step_Ss (ih : IS ga n) (C : Ctx) (s : List Stmt) (f : Caller → M Flow) (h : denSs (n + 1) C s = some f) : SsOk ga C s f := by
  intro X W c k G hp
  cases s with
  | nil =>
    simp only [denSs] at h; cases h
    exact pss_nilM
  | cons e r =>
    simp only [denSs] at h
    obtain ⟨f, h1, h2⟩ := Option.bind_eq_some_iff.mp h
    obtain ⟨fs', h3, h4⟩ := Option.map_eq_some_iff.mp h2
    subst h4
    exact pss_consM (ih.S C e f h1 X W c k G hp) (ih.Ss C r fs' h3 X W c k G hp)
end
theorem is_all (ga : GA) : ∀ n, IS ga n
  | 0 => ⟨fun _ _ _ h => by simp [denS] at h, fun _ _ _ h => by simp [denSs] at h⟩
  | n + 1 => ⟨step_S (is_all ga n), step_Ss (is_all ga n)⟩
section
variable {P : Program} {w : World} {K : PySem.W.Frag} {mg : Str → Option Value} {base : Heap} {ga : GA} {gl : List (Str × GV)} {c : Caller} {k : Nat}
theorem start_env {g : Gh} {F : Hp} {μ : List Addr} {H : Hp} {args : List Val} {vs : List V} (r : RVs K ga F μ args vs) (m : Nat) : Paired (SlotR K ga g F μ H) (args.map .pv ++ List.replicate m .unb) (vs.map some ++ List.replicate m none) := by
  refine pappend ?_ ?_
  · induction args generalizing vs with
    | nil => simp only [RVs] at r; subst r; exact .nil
    | cons a args ih =>
      obtain ⟨y, ys, rfl, h1, h2⟩ := r.cons_inv
      exact .cons ⟨y, rfl, h1⟩ (ih h2)
  · induction m with
    | zero => exact .nil
    | succ m ih => exact .cons trivial ih
theorem start_rel {F : Hp} {μ : List Addr} {S : Mem} {H : Hp} {args : List Val} {vs : List V} {N : List Str} (r0 : Rel0 K ga F μ S H) (r : RVs K ga F μ args vs) : Rel K ga ⟨F, μ, H, []⟩ F μ (startE N args) S (L2.start N vs) H := by
  have noOwn : ∀ i a, ¬ OwnAt (startE N args) (L2.start N vs) i a := by
    rintro i a ⟨⟨s, e, ho⟩, _⟩
    unfold startE at e
    have hm := List.mem_of_getElem? e
    rcases List.mem_append.mp hm with z | z
    · obtain ⟨v, _, rfl⟩ := List.mem_map.mp z
      cases ho
    · obtain ⟨_, rfl⟩ := List.mem_replicate.mp z
      cases ho
  refine ⟨r0, ⟨Le.refl _, Pre.refl _, fun a o h _ => h, fun a h => .inl h, fun a h => .inl h⟩, ?_, fun i j a h _ => absurd h (noOwn i a), fun p hp => by cases hp⟩
  unfold startE L2.start
  rw [r.length]
  exact start_env r _
/-- a def's promise, by its body's meaning -/
theorem def_ok {x qual : Str} {params : Arguments} {body : List Stmt} {scope : Scope} {dvs : List V} {kws : List (Str × V)} {f : Addr} {fd : FuncData} {N ps : List Str} {n i : Nat} {b : Caller → M Flow} {locs : List (Nat × Nat)} {c' : Caller}
    (F : L2.FunD K x qual params body scope dvs kws f fd) (S : L2.FnScope N ps scope) (h : denSs n { N := N, sc := scope, gl := gl, locs := locs } body = some b) (gok : GlOk P w K mg base ga gl c k)
    (hc : ∀ args S, c' i args S = runFn ⟨N, ps.length, b⟩ c args S) : FnOk P w K mg base (L2.CX P w) (k + 1) f fd ps (spC K ga c' i ps.length) := by
  refine F.ok S (fun vs H Q E q => q.1) fun cdv A outer s H vs Q E hr q => ?_
  obtain ⟨hl, F0, μ, Sm, args, r0, ra, q⟩ := q
  rw [hc] at q
  have tk : L2.Takes (L2.cxOf (L2.CX P w) P w K mg base N qual scope f cdv A outer s H E) (fun cls d _ H => E cls d H) := L2.takes_of rfl rfl rfl rfl
  have G : Good (L2.cxOf (L2.CX P w) P w K mg base N qual scope f cdv A outer s H E) ga (fun cls d _ H => E cls d H) { N := N, sc := scope, gl := gl, locs := locs } c k :=
    ⟨rfl, S.nd, rfl, S.kind, rfl, hr, fun _ _ _ => rfl, tk, gok⟩
  refine ⟨_, (is_all ga n).Ss _ _ b h _ _ c k G (L2.passes_of rfl), ⟨F0, μ, H, []⟩, F0, μ, startE N args, Sm, start_rel r0 ra, ?_⟩
  unfold runFn at q
  have hla : args.length = ps.length := by rw [← ra.length]; exact hl
  rw [if_pos hla] at q
  simp only at q
  cases e : b c (startE N args) Sm with
  | ok fl ρ' S' =>
    rw [e] at q
    cases fl with
    | nx => exact fun F' μ' σ' H' _ _ r => q F' μ' H' .non r.r0 r.gr (by simp [RR0, RV])
    | bk => exact q.elim
    | ct => exact q.elim
    | rt rv =>
      refine fun F' μ' σ' H' _ _ r x rr => q F' μ' H' x r.r0 r.gr ?_
      cases rv with
      | fz v => exact rr
      | fl vs =>
        obtain ⟨a, xs, h1, h2, h3, h4⟩ := rr
        exact ⟨a, xs, h1, h2, h3, h4.1.1, h4.1.2.1, h4.1.2.2⟩
      | fd vs =>
        obtain ⟨a, xs, h1, h2, h3, h4⟩ := rr
        exact ⟨a, xs, h1, h2, h3, h4.1.1, h4.1.2.1, h4.1.2.2⟩
  | exc cl fs ρ' S' =>
    rw [e] at q
    exact fun F' μ' σ' H' cls d _ _ r x => q F' μ' H' cls d r.r0 r.gr x
  | bad => rw [e] at q; exact q.elim
end
end Lk
end

section
set_option Elab.async false
set_option linter.all false
set_option maxRecDepth 100000
set_option maxHeartbeats 1000000
namespace Lk
open PySem PyProof.Rows
open L2 (V Hp HO upd upd_same upd_ne ne_of ne_of_none Key Rd SqL SqT VK XK WX Only FnOk Vals RelV)

theorem fnOk_bad {P : Program} {w : World} {K : PySem.W.Frag} {mg : Str → Option Value} {base : Heap} {CX : L2.CXT} {ga : GA} {f : Addr} {fd : FuncData} {ps : List Str} {i np k : Nat} : FnOk P w K mg base CX k f fd ps (spC K ga (fun _ _ _ => .bad) i np) :=
  ⟨fun vs H Q E q => by obtain ⟨_, _, _, _, _, _, _, z⟩ := q; exact z.elim, fun A outer s H args us vs Q E _ _ _ _ q => by obtain ⟨_, _, _, _, _, _, _, z⟩ := q; exact z.elim⟩
/-- where a def stands and what it is -/
structure DefIs (K : PySem.W.Frag) (ga : GA) (gl : List (Str × GV)) (i : Nat) (F : Fn) (dfl : List Val) (fd : FuncData) (ps : List Str) (ds : List Value) (dvs : List V) : Prop where
  fun_ : ∃ x qual params body scope dV kws n locs, L2.FunD K x qual params body scope dV kws (ga.fn i) fd ∧ L2.FnScope F.N ps scope ∧ denSs n { N := F.N, sc := scope, gl := gl, locs := locs } body = some F.body
  np : ps.length = F.np
  binds : L2.Binds K fd ps ds
  dfs : Vals dvs ds
  dvl : ∀ F μ, RVs K ga F μ dfl dvs
structure Text (P : Program) (w : World) (K : PySem.W.Frag) (mg : Str → Option Value) (base : Heap) (ga : GA) (gl : List (Str × GV)) (Fs : List Fn) : Prop where
  fns : ∀ x i np dfl, gl.lookup x = some (.fn i np dfl) → ∃ F fd ps ds dvs, Fs[i]? = some F ∧ np = F.np ∧ mg x = some (.ref (ga.fn i)) ∧ PySem.W.keepIn K (.ref (ga.fn i)) = true ∧ DefIs K ga gl i F dfl fd ps ds dvs
  csts : ∀ x v, gl.lookup x = some (.cst v) → ∃ y u, mg x = some u ∧ RelV y u ∧ ∀ F μ, RV K ga F μ v y
  blts : ∀ x, gl.lookup x = none → ((biV x).isSome = true ∨ x = "range") → mg x = none
section
variable {P : Program} {w : World} {K : PySem.W.Frag} {mg : Str → Option Value} {base : Heap} {ga : GA} {gl : List (Str × GV)} {Fs : List Fn}
theorem def_level {i : Nat} {F : Fn} {dfl : List Val} {fd : FuncData} {ps : List Str} {ds : List Value} {dvs : List V} {k : Nat} (D : DefIs K ga gl i F dfl fd ps ds dvs) (hi : Fs[i]? = some F) (g : GlOk P w K mg base ga gl (callN Fs k) k) :
    FnOk P w K mg base (L2.CX P w) (k + 1) (ga.fn i) fd ps (spC K ga (callN Fs (k + 1)) i F.np) := by
  obtain ⟨x, qual, params, body, scope, dV, kws, n, locs, h1, h2, h3⟩ := D.fun_
  have := def_ok (c' := callN Fs (k + 1)) (i := i) h1 h2 h3 g (fun args S => by
    show (match Fs[i]? with | some F => runFn F (callN Fs k) args S | none => .bad) = _
    rw [hi, D.np])
  rw [← D.np]
  exact this
theorem levels (T : Text P w K mg base ga gl Fs) : ∀ k, GlOk P w K mg base ga gl (callN Fs k) k
  | 0 => ⟨fun x i np dfl h => by
      obtain ⟨F, fd, ps, ds, dvs, h1, h2, h3, h4, D⟩ := T.fns x i np dfl h
      exact ⟨fd, ps, ds, dvs, h3, h4, fnOk_bad, D.binds, D.dfs, D.dvl⟩, T.csts, T.blts⟩
  | k + 1 => ⟨fun x i np dfl h => by
      obtain ⟨F, fd, ps, ds, dvs, h1, h2, h3, h4, D⟩ := T.fns x i np dfl h
      subst h2
      exact ⟨fd, ps, ds, dvs, h3, h4, def_level D h1 (levels T k), D.binds, D.dfs, D.dvl⟩, T.csts, T.blts⟩
theorem ints_rv {K : PySem.W.Frag} {F : Hp} {μ : List Addr} : ∀ ns : List Int, RVs K ga F μ (ns.map .int) (ns.map V.int)
  | [] => RVs.nil
  | n :: ns => RVs.cons (by simp [RV]) (ints_rv ns)
/-- the law's end: what it gives at a list of ints -/
theorem law_sp {H : Hp} {a : Addr} {ns : List Int} {c : Caller} {i : Nat} (hO : Only H) (hS : SqL K H a (ns.map V.int)) (h : ∃ S', c i [.lst (ns.map .int)] [] = .ok (.fz (.bl true)) S') : spC K ga c i 1 [.ref a] H (fun v _ => v = .bl true) fun _ _ _ => False := by
  obtain ⟨S', h⟩ := h
  refine ⟨rfl, H, [], [], [.lst (ns.map .int)], ⟨Le.refl _, .nil, List.nodup_nil⟩, RVs.cons ?_ RVs.nil, ?_⟩
  · simp only [RV]
    exact ⟨a, ns.map V.int, rfl, hS, ints_rv ns⟩
  · rw [h]
    intro F' μ' H' x _ _ rr
    simpa [RR0, RV] using rr
end
end Lk
end

section
set_option Elab.async false
set_option linter.all false
set_option maxRecDepth 100000
set_option maxHeartbeats 1000000
namespace Lk
open PySem PyProof.Rows
open L2 (V Hp HO VK XK WX Only FnOk Vals RelV)

def biNames : List Str := (["len", "int", "list", "tuple", "dict", "all", "any", "range"] : List String).map Str.ofString
theorem bi_mem {x : Str} (h : (biV x).isSome = true ∨ x = "range") : x ∈ biNames := by
  rcases h with h | h
  · unfold biV at h
    repeat' split at h
    all_goals first | (rename_i e; subst e; decide) | cases h
  · subst h; decide
theorem getD_some {α : Type} {o : Option α} {d : α} (h : o.isSome = true) : o = some (o.getD d) := by
  cases o with
  | none => cases h
  | some a => rfl
def gaOf (K : PySem.W.Frag) (ns : List Str) : GA := ⟨fun i => He.ga K (ns.getD i ""), fun _ => 0, fun _ => ""⟩
/-- one entry of the table of globals -/
def EntryOk (K : PySem.W.Frag) (mg : Str → Option Value) (ga : GA) (gl : List (Str × GV)) (Fs : List Fn) (p : Str × GV) : Prop := match p.2 with
  | .fn i np dfl => ∃ F fd ps ds dvs, Fs[i]? = some F ∧ np = F.np ∧ mg p.1 = some (.ref (ga.fn i)) ∧ PySem.W.keepIn K (.ref (ga.fn i)) = true ∧ DefIs K ga gl i F dfl fd ps ds dvs
  | .cst v => ∃ y u, mg p.1 = some u ∧ RelV y u ∧ ∀ F μ, RV K ga F μ v y
theorem text_of {P : Program} {w : World} {K : PySem.W.Frag} {mg : Str → Option Value} {base : Heap} {ga : GA} {gl : List (Str × GV)} {Fs : List Fn} (h : ∀ p ∈ gl, EntryOk K mg ga gl Fs p) (hb : ∀ x ∈ biNames, gl.lookup x = none → mg x = none) : Text P w K mg base ga gl Fs :=
  ⟨fun x i np dfl e => h _ (PySem.mem_of_lookup e), fun x v e => h _ (PySem.mem_of_lookup e), fun x e hx => hb x (bi_mem hx) e⟩
theorem defIs_of {K : PySem.W.Frag} {ga : GA} {gl : List (Str × GV)} {i : Nat} {F : Fn} {st : Stmt} {ps : List Str} {fd : FuncData} {locs : List (Nat × Nat)} {n : Nat} {q : Str} {xn : Str}
    (FD : L2.FunD K xn q (L2.defArgs st) (L2.defBody st) (L2.defScope st) [] [] (ga.fn i) fd) (S : L2.FnScope F.N ps (L2.defScope st)) (hd : denSs n ⟨F.N, L2.defScope st, gl, locs, none⟩ (L2.defBody st) = some F.body) (hn : ps.length = F.np)
    (hb : ∀ (kV doc pm : Value) (an : Option Addr) (cdv ct : Value) (us : List Value), us.length = ps.length → bindArgs (PySem.W.fnOf xn q (L2.defArgs st) (L2.defBody st) (L2.defScope st) .none kV doc pm an cdv ct) ⟨us, []⟩ = pure (ps.zip us)) : DefIs K ga gl i F [] fd ps [] [] :=
  ⟨⟨_, _, _, _, _, _, _, n, locs, FD, S, hd⟩, hn, FD.bindsN hb, .nil, fun _ _ => RVs.nil⟩
/-- a def without defaults -/
theorem entry_of {K : PySem.W.Frag} {mg : Str → Option Value} {ga : GA} {gl : List (Str × GV)} {Fs : List Fn} {x : Str} {i : Nat} {F : Fn} {st : Stmt} {ps : List Str} {fd : FuncData} {locs : List (Nat × Nat)} {n : Nat} {q : Str} {xn : Str}
    (FD : L2.FunD K xn q (L2.defArgs st) (L2.defBody st) (L2.defScope st) [] [] (ga.fn i) fd) (hF : Fs[i]? = some F) (hm : mg x = some (.ref (ga.fn i))) (S : L2.FnScope F.N ps (L2.defScope st)) (hd : denSs n ⟨F.N, L2.defScope st, gl, locs, none⟩ (L2.defBody st) = some F.body) (hn : ps.length = F.np)
    (hb : ∀ (kV doc pm : Value) (an : Option Addr) (cdv ct : Value) (us : List Value), us.length = ps.length → bindArgs (PySem.W.fnOf xn q (L2.defArgs st) (L2.defBody st) (L2.defScope st) .none kV doc pm an cdv ct) ⟨us, []⟩ = pure (ps.zip us)) : EntryOk K mg ga gl Fs (x, .fn i F.np []) :=
  ⟨F, fd, ps, [], [], hF, rfl, hm, FD.kp, defIs_of FD S hd hn hb⟩
/-- nothing is raised -/
theorem fnOk_calm {P : Program} {w : World} {K : PySem.W.Frag} {mg : Str → Option Value} {base : Heap} {k : Nat} {f : Addr} {fd : FuncData} {ps : List Str} {sp : L2.Sp} (F : FnOk P w K mg base (L2.CX P w) k f fd ps sp) : FnOk P w K mg base L2.CX0 k f fd ps (fun vs H Q _ => sp vs H Q fun _ _ _ => False) :=
  ⟨fun vs H Q E h => F.len _ _ _ _ h, fun A outer s H args us vs Q E hr e0 hb r h => codeAny_mono (F.run A outer s H args us vs Q _ hr e0 hb r h) fun res s' hq => by
    cases res with
    | error e =>
      obtain ⟨_, _, _, _, _, _, _, _, _, _, _, _, hE⟩ := (show L2.CX P w outer H s (fun _ _ _ => False) e s' from hq)
      exact hE.elim
    | ok fl => cases fl <;> exact hq⟩
theorem law_fn {P : Program} {w : World} {K : PySem.W.Frag} {mg : Str → Option Value} {base : Heap} {ga : GA} {gl : List (Str × GV)} {Fs : List Fn} (T : Text P w K mg base ga gl Fs) {i : Nat} {F : Fn} {fd : FuncData} {ps : List Str} (D : DefIs K ga gl i F [] fd ps [] []) (hi : Fs[i]? = some F) (k : Nat) :
    FnOk P w K mg base L2.CX0 (k + 1) (ga.fn i) fd ps (fun vs H Q _ => spC K ga (callN Fs (k + 1)) i F.np vs H Q fun _ _ _ => False) := fnOk_calm (def_level D hi (levels T k))
end Lk
end

section
set_option Elab.async false
set_option linter.all false
set_option maxRecDepth 100000
namespace Law05
open PySem Lk
def top (i : Nat) : Stmt := PySem.Challenge.pw_likeframes_k05_whole_conditions.main.body.getD i (.Pass ⟨0, 0, 0, 0⟩)
def gl : List (Str × GV) := [("value_of", .fn 0 2 []), ("truth", .fn 1 2 []), ("chosen", .fn 2 2 []), ("_law_number", .fn 3 2 []), ("_law_take", .fn 4 2 []), ("_law_pick", .fn 5 2 []), ("_law_term", .fn 6 3 []), ("_law_atom", .fn 7 2 []), ("_law_deep", .fn 8 3 []), ("_law_value", .fn 9 2 []), ("_law_sure", .fn 10 3 []), ("_law_choice", .fn 11 3 []), ("law", .fn 12 1 [])]
def locs : List (Nat × Nat) := [(82, 4)]
/- value_of -/
def N0 : List Str := ["values", "term"]
abbrev S0 : Stmt := top 1
def C0 : Lk.Ctx := ⟨N0, L2.defScope S0, gl, locs, none⟩
theorem some0 : (denSs 60 C0 (L2.defBody S0)).isSome = true := by decide +kernel
def F0 : Fn := ⟨N0, 2, (denSs 60 C0 (L2.defBody S0)).getD fun _ => fail⟩
/- truth -/
def N1 : List Str := ["values", "told", "found", "both", "strong", "first", "last"]
abbrev S1 : Stmt := top 2
def C1 : Lk.Ctx := ⟨N1, L2.defScope S1, gl, locs, none⟩
theorem some1 : (denSs 60 C1 (L2.defBody S1)).isSome = true := by decide +kernel
def F1 : Fn := ⟨N1, 2, (denSs 60 C1 (L2.defBody S1)).getD fun _ => fail⟩
/- chosen -/
def N2 : List Str := ["values", "told"]
abbrev S2 : Stmt := top 3
def C2 : Lk.Ctx := ⟨N2, L2.defScope S2, gl, locs, none⟩
theorem some2 : (denSs 60 C2 (L2.defBody S2)).isSome = true := by decide +kernel
def F2 : Fn := ⟨N2, 2, (denSs 60 C2 (L2.defBody S2)).getD fun _ => fail⟩
/- _law_number -/
def N3 : List Str := ["script", "index", "rest", "step", "blend", "cell", "turn"]
abbrev S3 : Stmt := top 5
def C3 : Lk.Ctx := ⟨N3, L2.defScope S3, gl, locs, none⟩
theorem some3 : (denSs 60 C3 (L2.defBody S3)).isSome = true := by decide +kernel
def F3 : Fn := ⟨N3, 2, (denSs 60 C3 (L2.defBody S3)).getD fun _ => fail⟩
/- _law_take -/
def N4 : List Str := ["draw", "many"]
abbrev S4 : Stmt := top 6
def C4 : Lk.Ctx := ⟨N4, L2.defScope S4, gl, locs, none⟩
theorem some4 : (denSs 60 C4 (L2.defBody S4)).isSome = true := by decide +kernel
def F4 : Fn := ⟨N4, 2, (denSs 60 C4 (L2.defBody S4)).getD fun _ => fail⟩
/- _law_pick -/
def N5 : List Str := ["draw", "items"]
abbrev S5 : Stmt := top 7
def C5 : Lk.Ctx := ⟨N5, L2.defScope S5, gl, locs, none⟩
theorem some5 : (denSs 60 C5 (L2.defBody S5)).isSome = true := by decide +kernel
def F5 : Fn := ⟨N5, 2, (denSs 60 C5 (L2.defBody S5)).getD fun _ => fail⟩
/- _law_term -/
def N6 : List Str := ["draw", "columns", "kind", "some", "name", "mine"]
abbrev S6 : Stmt := top 8
def C6 : Lk.Ctx := ⟨N6, L2.defScope S6, gl, locs, none⟩
theorem some6 : (denSs 60 C6 (L2.defBody S6)).isSome = true := by decide +kernel
def F6 : Fn := ⟨N6, 3, (denSs 60 C6 (L2.defBody S6)).getD fun _ => fail⟩
/- _law_atom -/
def N7 : List Str := ["draw", "columns", "kind", "word", "one", "other"]
abbrev S7 : Stmt := top 9
def C7 : Lk.Ctx := ⟨N7, L2.defScope S7, gl, locs, none⟩
theorem some7 : (denSs 60 C7 (L2.defBody S7)).isSome = true := by decide +kernel
def F7 : Fn := ⟨N7, 2, (denSs 60 C7 (L2.defBody S7)).getD fun _ => fail⟩
/- _law_deep -/
def N8 : List Str := ["draw", "columns", "deep", "kind"]
abbrev S8 : Stmt := top 10
def C8 : Lk.Ctx := ⟨N8, L2.defScope S8, gl, locs, none⟩
theorem some8 : (denSs 60 C8 (L2.defBody S8)).isSome = true := by decide +kernel
def F8 : Fn := ⟨N8, 3, (denSs 60 C8 (L2.defBody S8)).getD fun _ => fail⟩
/- _law_value -/
def N9 : List Str := ["values", "term"]
abbrev S9 : Stmt := top 11
def C9 : Lk.Ctx := ⟨N9, L2.defScope S9, gl, locs, none⟩
theorem some9 : (denSs 60 C9 (L2.defBody S9)).isSome = true := by decide +kernel
def F9 : Fn := ⟨N9, 2, (denSs 60 C9 (L2.defBody S9)).getD fun _ => fail⟩
/- _law_sure -/
def N10 : List Str := ["values", "told", "wanted", "terms", "both", "term", "part"]
abbrev S10 : Stmt := top 12
def C10 : Lk.Ctx := ⟨N10, L2.defScope S10, gl, locs, none⟩
theorem some10 : (denSs 60 C10 (L2.defBody S10)).isSome = true := by decide +kernel
def F10 : Fn := ⟨N10, 3, (denSs 60 C10 (L2.defBody S10)).getD fun _ => fail⟩
/- _law_choice -/
def N11 : List Str := ["draw", "columns", "deep"]
abbrev S11 : Stmt := top 13
def C11 : Lk.Ctx := ⟨N11, L2.defScope S11, gl, locs, none⟩
theorem some11 : (denSs 60 C11 (L2.defBody S11)).isSome = true := by decide +kernel
def F11 : Fn := ⟨N11, 3, (denSs 60 C11 (L2.defBody S11)).getD fun _ => fail⟩
/- law -/
def N12 : List Str := ["script", "draw", "columns", "turn", "values", "due", "found", "choice", "last", "step", "kept", "told"]
abbrev S12 : Stmt := top 14
def C12 : Lk.Ctx := ⟨N12, L2.defScope S12, gl, locs, none⟩
theorem some12 : (denSs 60 C12 (L2.defBody S12)).isSome = true := by decide +kernel
def F12 : Fn := ⟨N12, 1, (denSs 60 C12 (L2.defBody S12)).getD fun _ => fail⟩
def prog : List Fn := [F0, F1, F2, F3, F4, F5, F6, F7, F8, F9, F10, F11, F12]
def isTrue (r : Res) : Bool := match r with | .ok (.fz (.bl true)) _ => true | _ => false
end Law05
end

section
set_option Elab.async false
set_option linter.all false
set_option maxRecDepth 100000
set_option maxHeartbeats 0
namespace Law05
open PySem PySem.Spec PyProof.Rows Lk L2
def fnNames : List Str := ["value_of", "truth", "chosen", "_law_number", "_law_take", "_law_pick", "_law_term", "_law_atom", "_law_deep", "_law_value", "_law_sure", "_law_choice", "law"]
def P0 : List Str := ["values", "term"]
def d0 : He.DefD := ⟨("value_of", none), "value_of", "value_of", defArgs S0, defBody S0, defScope S0, [], []⟩
theorem den0 : denSs 60 C0 (defBody S0) = some F0.body := getD_some (d := fun _ => Lk.fail) some0
theorem sc0 : FnScope N0 P0 (defScope S0) := ⟨rfl, rfl, rfl, by decide +kernel, rfl, by decide +kernel, by decide +kernel⟩
def P1 : List Str := ["values", "told"]
def d1 : He.DefD := ⟨("truth", none), "truth", "truth", defArgs S1, defBody S1, defScope S1, [], []⟩
theorem den1 : denSs 60 C1 (defBody S1) = some F1.body := getD_some (d := fun _ => Lk.fail) some1
theorem sc1 : FnScope N1 P1 (defScope S1) := ⟨rfl, rfl, rfl, by decide +kernel, rfl, by decide +kernel, by decide +kernel⟩
def P2 : List Str := ["values", "told"]
def d2 : He.DefD := ⟨("chosen", none), "chosen", "chosen", defArgs S2, defBody S2, defScope S2, [], []⟩
theorem den2 : denSs 60 C2 (defBody S2) = some F2.body := getD_some (d := fun _ => Lk.fail) some2
theorem sc2 : FnScope N2 P2 (defScope S2) := ⟨rfl, rfl, rfl, by decide +kernel, rfl, by decide +kernel, by decide +kernel⟩
def P3 : List Str := ["script", "index"]
def d3 : He.DefD := ⟨("_law_number", none), "_law_number", "_law_number", defArgs S3, defBody S3, defScope S3, [], []⟩
theorem den3 : denSs 60 C3 (defBody S3) = some F3.body := getD_some (d := fun _ => Lk.fail) some3
theorem sc3 : FnScope N3 P3 (defScope S3) := ⟨rfl, rfl, rfl, by decide +kernel, rfl, by decide +kernel, by decide +kernel⟩
def P4 : List Str := ["draw", "many"]
def d4 : He.DefD := ⟨("_law_take", none), "_law_take", "_law_take", defArgs S4, defBody S4, defScope S4, [], []⟩
theorem den4 : denSs 60 C4 (defBody S4) = some F4.body := getD_some (d := fun _ => Lk.fail) some4
theorem sc4 : FnScope N4 P4 (defScope S4) := ⟨rfl, rfl, rfl, by decide +kernel, rfl, by decide +kernel, by decide +kernel⟩
def P5 : List Str := ["draw", "items"]
def d5 : He.DefD := ⟨("_law_pick", none), "_law_pick", "_law_pick", defArgs S5, defBody S5, defScope S5, [], []⟩
theorem den5 : denSs 60 C5 (defBody S5) = some F5.body := getD_some (d := fun _ => Lk.fail) some5
theorem sc5 : FnScope N5 P5 (defScope S5) := ⟨rfl, rfl, rfl, by decide +kernel, rfl, by decide +kernel, by decide +kernel⟩
def P6 : List Str := ["draw", "columns", "kind"]
def d6 : He.DefD := ⟨("_law_term", none), "_law_term", "_law_term", defArgs S6, defBody S6, defScope S6, [], []⟩
theorem den6 : denSs 60 C6 (defBody S6) = some F6.body := getD_some (d := fun _ => Lk.fail) some6
theorem sc6 : FnScope N6 P6 (defScope S6) := ⟨rfl, rfl, rfl, by decide +kernel, rfl, by decide +kernel, by decide +kernel⟩
def P7 : List Str := ["draw", "columns"]
def d7 : He.DefD := ⟨("_law_atom", none), "_law_atom", "_law_atom", defArgs S7, defBody S7, defScope S7, [], []⟩
theorem den7 : denSs 60 C7 (defBody S7) = some F7.body := getD_some (d := fun _ => Lk.fail) some7
theorem sc7 : FnScope N7 P7 (defScope S7) := ⟨rfl, rfl, rfl, by decide +kernel, rfl, by decide +kernel, by decide +kernel⟩
def P8 : List Str := ["draw", "columns", "deep"]
def d8 : He.DefD := ⟨("_law_deep", none), "_law_deep", "_law_deep", defArgs S8, defBody S8, defScope S8, [], []⟩
theorem den8 : denSs 60 C8 (defBody S8) = some F8.body := getD_some (d := fun _ => Lk.fail) some8
theorem sc8 : FnScope N8 P8 (defScope S8) := ⟨rfl, rfl, rfl, by decide +kernel, rfl, by decide +kernel, by decide +kernel⟩
def P9 : List Str := ["values", "term"]
def d9 : He.DefD := ⟨("_law_value", none), "_law_value", "_law_value", defArgs S9, defBody S9, defScope S9, [], []⟩
theorem den9 : denSs 60 C9 (defBody S9) = some F9.body := getD_some (d := fun _ => Lk.fail) some9
theorem sc9 : FnScope N9 P9 (defScope S9) := ⟨rfl, rfl, rfl, by decide +kernel, rfl, by decide +kernel, by decide +kernel⟩
def P10 : List Str := ["values", "told", "wanted"]
def d10 : He.DefD := ⟨("_law_sure", none), "_law_sure", "_law_sure", defArgs S10, defBody S10, defScope S10, [], []⟩
theorem den10 : denSs 60 C10 (defBody S10) = some F10.body := getD_some (d := fun _ => Lk.fail) some10
theorem sc10 : FnScope N10 P10 (defScope S10) := ⟨rfl, rfl, rfl, by decide +kernel, rfl, by decide +kernel, by decide +kernel⟩
def P11 : List Str := ["draw", "columns", "deep"]
def d11 : He.DefD := ⟨("_law_choice", none), "_law_choice", "_law_choice", defArgs S11, defBody S11, defScope S11, [], []⟩
theorem den11 : denSs 60 C11 (defBody S11) = some F11.body := getD_some (d := fun _ => Lk.fail) some11
theorem sc11 : FnScope N11 P11 (defScope S11) := ⟨rfl, rfl, rfl, by decide +kernel, rfl, by decide +kernel, by decide +kernel⟩
def P12 : List Str := ["script"]
def d12 : He.DefD := ⟨("law", none), "law", "law", defArgs S12, defBody S12, defScope S12, [], []⟩
theorem den12 : denSs 60 C12 (defBody S12) = some F12.body := getD_some (d := fun _ => Lk.fail) some12
theorem sc12 : FnScope N12 P12 (defScope S12) := ⟨rfl, rfl, rfl, by decide +kernel, rfl, by decide +kernel, by decide +kernel⟩
def fn : List He.DefD := [d0, d1, d2, d3, d4, d5, d6, d7, d8, d9, d10, d11, d12]
def fa : List He.Fa := [.glo "value_of", .glo "truth", .glo "chosen", .glo "_law_number", .glo "_law_take", .glo "_law_pick", .glo "_law_term", .glo "_law_atom", .glo "_law_deep", .glo "_law_value", .glo "_law_sure", .glo "_law_choice", .glo "law", .free "len", .free "int", .free "list", .free "tuple", .free "dict", .free "all", .free "any", .free "range"]
abbrev R : PySem.W.OpenRow := PySem.W.OpenLaw.row PySem.Challenge.rw_likeframes_k05_whole_conditions
abbrev hk : PySem.W.Hook := He.hookD 4 fa fn
def ob (s : PySem.W.SharedT) : He.AlD := He.obsDG 4 fa fn (HandSHeadRun.getT s)
theorem ob_eq (s : PySem.W.SharedT) : ob s = hk.obs s.abs := He.obsDG_eq (HandSHeadRun.getT_eq s)
def names0 : List PySem.Str := (["value_of", "truth", "chosen", "_law_number", "_law_take", "_law_pick", "_law_term", "_law_atom", "_law_deep", "_law_value", "_law_sure", "_law_choice"] : List String).map PySem.Str.ofString
def names : List PySem.Str := names0
theorem run (w : World) : HandSHeadRun.RunEq R (PySem.W.view R.prog [14]) hk ob 20000 names w := by
  intro os
  kernel_rfl
theorem text {P : Program} {w : World} {K : PySem.W.Frag} {h : Heap} {mg : Str → Option Value} (X : K.In h) (G : h.Ns mainGlobals mg) (c : He.SaysD fa fn K) (base : Heap) : Text P w K mg base (gaOf K fnNames) gl prog := by
  refine text_of ?_ ?_
  · intro p hp
    rcases List.mem_cons.mp hp with rfl | hp
    · obtain ⟨fd, FD⟩ := c.def_ 0 (d := d0) rfl
      exact entry_of (F := F0) (ps := P0) (st := S0) (n := 60) (locs := locs) FD rfl (He.glo_ok X G (c.fact 0 (f := .glo "value_of") rfl)) sc0 den0 rfl fun _ _ _ _ _ _ us hl => match us, hl with | [_, _], _ => rfl
    rcases List.mem_cons.mp hp with rfl | hp
    · obtain ⟨fd, FD⟩ := c.def_ 1 (d := d1) rfl
      exact entry_of (F := F1) (ps := P1) (st := S1) (n := 60) (locs := locs) FD rfl (He.glo_ok X G (c.fact 1 (f := .glo "truth") rfl)) sc1 den1 rfl fun _ _ _ _ _ _ us hl => match us, hl with | [_, _], _ => rfl
    rcases List.mem_cons.mp hp with rfl | hp
    · obtain ⟨fd, FD⟩ := c.def_ 2 (d := d2) rfl
      exact entry_of (F := F2) (ps := P2) (st := S2) (n := 60) (locs := locs) FD rfl (He.glo_ok X G (c.fact 2 (f := .glo "chosen") rfl)) sc2 den2 rfl fun _ _ _ _ _ _ us hl => match us, hl with | [_, _], _ => rfl
    rcases List.mem_cons.mp hp with rfl | hp
    · obtain ⟨fd, FD⟩ := c.def_ 3 (d := d3) rfl
      exact entry_of (F := F3) (ps := P3) (st := S3) (n := 60) (locs := locs) FD rfl (He.glo_ok X G (c.fact 3 (f := .glo "_law_number") rfl)) sc3 den3 rfl fun _ _ _ _ _ _ us hl => match us, hl with | [_, _], _ => rfl
    rcases List.mem_cons.mp hp with rfl | hp
    · obtain ⟨fd, FD⟩ := c.def_ 4 (d := d4) rfl
      exact entry_of (F := F4) (ps := P4) (st := S4) (n := 60) (locs := locs) FD rfl (He.glo_ok X G (c.fact 4 (f := .glo "_law_take") rfl)) sc4 den4 rfl fun _ _ _ _ _ _ us hl => match us, hl with | [_, _], _ => rfl
    rcases List.mem_cons.mp hp with rfl | hp
    · obtain ⟨fd, FD⟩ := c.def_ 5 (d := d5) rfl
      exact entry_of (F := F5) (ps := P5) (st := S5) (n := 60) (locs := locs) FD rfl (He.glo_ok X G (c.fact 5 (f := .glo "_law_pick") rfl)) sc5 den5 rfl fun _ _ _ _ _ _ us hl => match us, hl with | [_, _], _ => rfl
    rcases List.mem_cons.mp hp with rfl | hp
    · obtain ⟨fd, FD⟩ := c.def_ 6 (d := d6) rfl
      exact entry_of (F := F6) (ps := P6) (st := S6) (n := 60) (locs := locs) FD rfl (He.glo_ok X G (c.fact 6 (f := .glo "_law_term") rfl)) sc6 den6 rfl fun _ _ _ _ _ _ us hl => match us, hl with | [_, _, _], _ => rfl
    rcases List.mem_cons.mp hp with rfl | hp
    · obtain ⟨fd, FD⟩ := c.def_ 7 (d := d7) rfl
      exact entry_of (F := F7) (ps := P7) (st := S7) (n := 60) (locs := locs) FD rfl (He.glo_ok X G (c.fact 7 (f := .glo "_law_atom") rfl)) sc7 den7 rfl fun _ _ _ _ _ _ us hl => match us, hl with | [_, _], _ => rfl
    rcases List.mem_cons.mp hp with rfl | hp
    · obtain ⟨fd, FD⟩ := c.def_ 8 (d := d8) rfl
      exact entry_of (F := F8) (ps := P8) (st := S8) (n := 60) (locs := locs) FD rfl (He.glo_ok X G (c.fact 8 (f := .glo "_law_deep") rfl)) sc8 den8 rfl fun _ _ _ _ _ _ us hl => match us, hl with | [_, _, _], _ => rfl
    rcases List.mem_cons.mp hp with rfl | hp
    · obtain ⟨fd, FD⟩ := c.def_ 9 (d := d9) rfl
      exact entry_of (F := F9) (ps := P9) (st := S9) (n := 60) (locs := locs) FD rfl (He.glo_ok X G (c.fact 9 (f := .glo "_law_value") rfl)) sc9 den9 rfl fun _ _ _ _ _ _ us hl => match us, hl with | [_, _], _ => rfl
    rcases List.mem_cons.mp hp with rfl | hp
    · obtain ⟨fd, FD⟩ := c.def_ 10 (d := d10) rfl
      exact entry_of (F := F10) (ps := P10) (st := S10) (n := 60) (locs := locs) FD rfl (He.glo_ok X G (c.fact 10 (f := .glo "_law_sure") rfl)) sc10 den10 rfl fun _ _ _ _ _ _ us hl => match us, hl with | [_, _, _], _ => rfl
    rcases List.mem_cons.mp hp with rfl | hp
    · obtain ⟨fd, FD⟩ := c.def_ 11 (d := d11) rfl
      exact entry_of (F := F11) (ps := P11) (st := S11) (n := 60) (locs := locs) FD rfl (He.glo_ok X G (c.fact 11 (f := .glo "_law_choice") rfl)) sc11 den11 rfl fun _ _ _ _ _ _ us hl => match us, hl with | [_, _, _], _ => rfl
    rcases List.mem_cons.mp hp with rfl | hp
    · obtain ⟨fd, FD⟩ := c.def_ 12 (d := d12) rfl
      exact entry_of (F := F12) (ps := P12) (st := S12) (n := 60) (locs := locs) FD rfl (He.glo_ok X G (c.fact 12 (f := .glo "law") rfl)) sc12 den12 rfl fun _ _ _ _ _ _ us hl => match us, hl with | [_], _ => rfl
    cases hp
  · intro x hx _
    rcases List.mem_cons.mp hx with rfl | hx
    · exact He.free_ok X G (c.fact 13 (f := .free "len") rfl)
    rcases List.mem_cons.mp hx with rfl | hx
    · exact He.free_ok X G (c.fact 14 (f := .free "int") rfl)
    rcases List.mem_cons.mp hx with rfl | hx
    · exact He.free_ok X G (c.fact 15 (f := .free "list") rfl)
    rcases List.mem_cons.mp hx with rfl | hx
    · exact He.free_ok X G (c.fact 16 (f := .free "tuple") rfl)
    rcases List.mem_cons.mp hx with rfl | hx
    · exact He.free_ok X G (c.fact 17 (f := .free "dict") rfl)
    rcases List.mem_cons.mp hx with rfl | hx
    · exact He.free_ok X G (c.fact 18 (f := .free "all") rfl)
    rcases List.mem_cons.mp hx with rfl | hx
    · exact He.free_ok X G (c.fact 19 (f := .free "any") rfl)
    rcases List.mem_cons.mp hx with rfl | hx
    · exact He.free_ok X G (c.fact 20 (f := .free "range") rfl)
    cases hx
/-- the law, from what its meaning gives -/
theorem holds (hlaw : ∀ ns : List Int, ns.length ≤ 63 → ∃ S', callN prog 30 12 [.lst (ns.map .int)] [] = .ok (.fz (.bl true)) S') : PySem.Challenge.rw_likeframes_k05_whole_conditions.Holds := by
  open PySem.W PySem.Calls in
  w_on; o_law
  refine HandSHeadRun.head_any (r := OpenLaw.row PySem.Challenge.rw_likeframes_k05_whole_conditions) (q := view (OpenLaw.row PySem.Challenge.rw_likeframes_k05_whole_conditions).prog [14]) (H := hk) (ob := ob) (M := 20000) (loose := names) (d := HandSHeadRun.topDef (OpenLaw.row PySem.Challenge.rw_likeframes_k05_whole_conditions).prog 14) (kwd := []) ob_eq
    (by kernel_rfl) (fun s => by kernel_rfl) run (by kernel_rfl) (by kernel_rfl) (by kernel_rfl) (by rfl) (by first | assumption | decide +kernel) (by decide +kernel) ⟨rfl, rfl, rfl, rfl, rfl, by decide +kernel⟩ ?hw ?hc
  case hw => w_witness2
  case hc =>
    refine L2.walk_ofE (l := PySem.Challenge.rw_likeframes_k05_whole_conditions) (n := 63) (k := 30) (x := "script") (CX := L2.CX0) rfl (by decide) (by kernel_rfl) ⟨rfl, by decide, by decide⟩ ?F (fun _ _ _ _ z => z)
    intro w mg fa h Y G hmg0
    obtain ⟨K, KX, c⟩ := Y
    have hmg : mg ("law" : PySem.Str) = some (.ref fa) := by
      have e : (HandSHeadRun.topDef (OpenLaw.row PySem.Challenge.rw_likeframes_k05_whole_conditions).prog 14).name = ("law" : PySem.Str) := by kernel_rfl
      rw [← e]
      exact hmg0
    obtain ⟨fd, FD⟩ := c.def_ 12 (d := d12) rfl
    have e := hmg.symm.trans (He.glo_ok KX G (c.fact 12 (f := .glo "law") rfl))
    cases e
    have T := fun base => text (P := (PySem.Challenge.rw_likeframes_k05_whole_conditions).prog) (w := w) KX G c base
    have hb := FunD.bindsA (ps := ["script"]) FD fun _ _ _ _ _ _ us hl => match us, hl with | [_], _ => rfl
    refine ⟨K, fd, fun vs H Q E => spC K (gaOf K fnNames) (callN prog 30) 12 1 vs H Q fun _ _ _ => False, KX, fun s v => hb s [v] rfl, fun H a ns hl hO hS => law_sp hO hS (hlaw ns hl), fun base _ _ => ?_⟩
    exact law_fn (T base) (F := F12) (i := 12) (defIs_of (F := F12) (ps := P12) (st := S12) (n := 60) (locs := locs) FD sc12 den12 rfl fun _ _ _ _ _ _ us hl => match us, hl with | [_], _ => rfl) rfl 29
end Law05
end

section
set_option Elab.async false
set_option linter.all false
set_option maxRecDepth 100000
namespace Lk
open PySem
abbrev FE := Caller → M RVal
def nmE (i : Nat) : FE := fun _ => bnd (readE i) fun v => ret (.fz v)
def csE (v : Val) : FE := fun _ => ret (.fz v)
def vE (f : FE) : Caller → M Val := fun c => valM (f c)
def tupE (fs : List FE) : FE := fun c => bnd (argsM c fs) fun vs => if vs.length ≤ cap then ret (.fz (.tup vs)) else fail
def lstE (fs : List FE) : FE := fun c => bnd (argsM c fs) fun vs => if vs.length ≤ cap then ret (.fl vs) else fail
def dctE (l : List (FE × FE)) : FE := fun c => bnd (dispM c l []) fun kvs => ret (.fd (merge [] kvs))
def notE (f : FE) : FE := fun c => bnd (truM f c) fun b => ret (.fz (.bl (!b)))
def notT (t : Caller → M Bool) : Caller → M Bool := fun c => bnd (t c) fun b => ret (!b)
def ifE (t : Caller → M Bool) (a b : FE) : FE := fun c => bnd (t c) fun x => if x then a c else b c
def callE (i np : Nat) (fs : List FE) (dfl : List Val) : FE := fun c => bnd (argsM c fs) fun vs => callM c i np (vs ++ dfl)
def itE (f : FE) : Caller → M (List Val) := fun c => bnd (valM (f c)) fun v => opt (itemsV v)
def retE (f : FE) : Caller → M Flow := fun c => bnd (f c) fun v => ret (.rt v)
def setE (i : Nat) (sh : Bool) (f : FE) : Caller → M Flow := fun c => bnd (f c) fun v => setNm i sh v
def parE (i j : Nat) (fs : List FE) : Caller → M Flow := fun c => bnd (argsM c fs) fun vs => store2 i j vs
def tupS (gs : List Tgt) (f : FE) : Caller → M Flow := fun c => bnd (valM (f c)) fun v => nextM (asg (.tp gs) (.fz v))
def augS (fo fi fe : FE) : Caller → M Flow := fun c => bnd (valM (fo c)) fun o => bnd (valM (fi c)) fun i => bnd (getAtM o i) fun x => bnd (valM (fe c)) fun y => bnd (opt (addI x y)) fun z => nextM (setAtM o i z)
def augN (i : Nat) (fe : FE) : Caller → M Flow := fun c => bnd (readB i) fun x => bnd (valM (fe c)) fun y => bnd (opt (addI x y)) fun z => nextM (setS i (.pv z))
def forE (fi : Caller → M (List Val)) (g : Tgt) (fb : Caller → M Flow) : Caller → M Flow := fun c => bnd (fi c) fun xs => forL (fun x => asg g (.fz x)) (fb c) xs
def whE (ft : Caller → M Bool) (fb : Caller → M Flow) : Caller → M Flow := fun c => whileL (ft c) (fb c) fuelW
def ifS (ft : Caller → M Bool) (fb fo : Caller → M Flow) : Caller → M Flow := fun c => bnd (ft c) fun x => if x then fb c else fo c
def sqS : List (Caller → M Flow) → Caller → M Flow
  | [] => fun _ => ret .nx
  | f :: r => fun c => seqM (f c) (sqS r c)
def bndK {α β : Type} (o : Out α) (f : α → M β) : Out β := match o with
  | .ok a ρ S => f a ρ S
  | .exc c fs ρ S => .exc c fs ρ S
  | .bad => .bad
section
variable {α β : Type} {c : Caller} {ρ : Env} {S : Mem}
@[simp] theorem bnd_ap (m : M α) (f : α → M β) : Lk.bnd m f ρ S = bndK (m ρ S) f := rfl
@[simp] theorem bndK_ok (a : α) (f : α → M β) : bndK (.ok a ρ S) f = f a ρ S := rfl
@[simp] theorem bndK_bad (f : α → M β) : bndK .bad f = .bad := rfl
@[simp] theorem ret_ap (a : α) : Lk.ret a ρ S = .ok a ρ S := rfl
@[simp] theorem fail_ap : (Lk.fail : M α) ρ S = .bad := rfl
@[simp] theorem opt_some (a : α) : opt (some a) ρ S = .ok a ρ S := rfl
@[simp] theorem nmE_ap (i : Nat) : nmE i c ρ S = bndK (readE i ρ S) fun v => Lk.ret (.fz v) := rfl
@[simp] theorem csE_ap (v : Val) : csE v c ρ S = .ok (.fz v) ρ S := rfl
@[simp] theorem valM_ap (m : M RVal) : valM m ρ S = bndK (m ρ S) fun r => Lk.ret r.val := rfl
@[simp] theorem vE_ap (f : FE) : vE f c ρ S = bndK (f c ρ S) fun r => Lk.ret r.val := rfl
@[simp] theorem tupE_ap (fs : List FE) : tupE fs c ρ S = bndK (argsM c fs ρ S) fun vs => if vs.length ≤ cap then Lk.ret (.fz (.tup vs)) else Lk.fail := rfl
@[simp] theorem lstE_ap (fs : List FE) : lstE fs c ρ S = bndK (argsM c fs ρ S) fun vs => if vs.length ≤ cap then Lk.ret (.fl vs) else Lk.fail := rfl
@[simp] theorem dctE_ap (l : List (FE × FE)) : dctE l c ρ S = bndK (dispM c l [] ρ S) fun kvs => Lk.ret (.fd (merge [] kvs)) := rfl
@[simp] theorem notE_ap (f : FE) : notE f c ρ S = bndK (truM f c ρ S) fun b => Lk.ret (.fz (.bl (!b))) := rfl
@[simp] theorem notT_ap (t : Caller → M Bool) : notT t c ρ S = bndK (t c ρ S) fun b => Lk.ret (!b) := rfl
@[simp] theorem ifE_ap (t : Caller → M Bool) (a b : FE) : ifE t a b c ρ S = bndK (t c ρ S) fun x => if x then a c else b c := rfl
@[simp] theorem callE_ap (i np : Nat) (fs : List FE) (dfl : List Val) : callE i np fs dfl c ρ S = bndK (argsM c fs ρ S) fun vs => callM c i np (vs ++ dfl) := rfl
@[simp] theorem itE_ap (f : FE) : itE f c ρ S = bndK (f c ρ S) fun r => opt (itemsV r.val) := by
  show bndK (bndK (f c ρ S) fun r => Lk.ret r.val) (fun v => opt (itemsV v)) = _
  cases f c ρ S <;> rfl
@[simp] theorem retE_ap (f : FE) : retE f c ρ S = bndK (f c ρ S) fun v => Lk.ret (.rt v) := rfl
@[simp] theorem setE_ap (i : Nat) (f : FE) : setE i false f c ρ S = bndK (f c ρ S) fun v => Lk.bnd (setS i v.slot) fun _ => Lk.ret .nx := rfl
@[simp] theorem setEl_ap (i : Nat) (f : FE) : setE i true f c ρ S = bndK (f c ρ S) fun v => Lk.bnd (newLoc v) fun w => Lk.bnd (setS i w.slot) fun _ => Lk.ret .nx := rfl
@[simp] theorem parE_ap (i j : Nat) (fs : List FE) : parE i j fs c ρ S = bndK (argsM c fs ρ S) fun vs => store2 i j vs := rfl
@[simp] theorem store2_ap (i j : Nat) (v w : Val) : store2 i j [v, w] ρ S = bndK (setS i (.pv v) ρ S) fun _ => Lk.bnd (setS j (.pv w)) fun _ => Lk.ret .nx := rfl
@[simp] theorem tupS_ap (gs : List Tgt) (f : FE) : tupS gs f c ρ S = bndK (f c ρ S) fun r => Lk.bnd (asg (.tp gs) (.fz r.val)) fun _ => Lk.ret .nx := by
  show bndK (bndK (f c ρ S) fun r => Lk.ret r.val) _ = _
  cases f c ρ S <;> rfl
@[simp] theorem forE_ap (fi : Caller → M (List Val)) (g : Tgt) (fb : Caller → M Flow) : forE fi g fb c ρ S = bndK (fi c ρ S) fun xs => forL (fun x => asg g (.fz x)) (fb c) xs := rfl
@[simp] theorem ifS_ap (ft : Caller → M Bool) (fb fo : Caller → M Flow) : ifS ft fb fo c ρ S = bndK (ft c ρ S) fun x => if x then fb c else fo c := rfl
def seqK (o : Out Flow) (r : Caller → M Flow) (c : Caller) : Out Flow := match o with
  | .ok .nx ρ S => r c ρ S
  | .ok f ρ S => .ok f ρ S
  | .exc c fs ρ S => .exc c fs ρ S
  | .bad => .bad
@[simp] theorem sqS_nil : sqS [] c ρ S = .ok .nx ρ S := rfl
@[simp] theorem sqS_cons (f : Caller → M Flow) (r : List (Caller → M Flow)) : sqS (f :: r) c ρ S = seqK (f c ρ S) (sqS r) c := by
  show bndK (f c ρ S) _ = _
  cases f c ρ S with
  | ok a ρ' S' => cases a <;> rfl
  | exc _ _ _ _ => rfl
  | bad => rfl
@[simp] theorem seqK_nx (r : Caller → M Flow) : seqK (.ok .nx ρ S) r c = r c ρ S := rfl
@[simp] theorem seqK_rt (v : RVal) (r : Caller → M Flow) : seqK (.ok (.rt v) ρ S) r c = .ok (.rt v) ρ S := rfl
@[simp] theorem seqK_bad (r : Caller → M Flow) : seqK .bad r c = .bad := rfl
@[simp] theorem truM_ap (f : FE) : truM f c ρ S = bndK (f c ρ S) fun r ρ S => optAt (truV (view S r.val)) ρ S := by
  show bndK (bndK (f c ρ S) fun r => Lk.ret r.val) (fun v ρ S => match truV (view S v) with | none => .bad | some b => .ok b ρ S) = _
  cases f c ρ S with
  | ok a ρ' S' =>
    show (match truV (view S' a.val) with | none => .bad | some b => .ok b ρ' S') = optAt (truV (view S' a.val)) ρ' S'
    cases truV (view S' a.val) <;> rfl
  | exc _ _ _ _ => rfl
  | bad => rfl
@[simp] theorem app_ap (os : List Opd) (p : List Val → Option α) : app os p c ρ S = bndK (pres c os ρ S) fun vs ρ S => optAt ((posts os vs ρ S).bind p) ρ S := rfl
def forK (o : Out Flow) (g : Val → M Unit) (b : M Flow) (r : List Val) : Out Flow := match o with
  | .ok .nx ρ S | .ok .ct ρ S => forL g b r ρ S
  | .ok .bk ρ S => .ok .nx ρ S
  | .ok (.rt v) ρ S => .ok (.rt v) ρ S
  | .exc c fs ρ S => .exc c fs ρ S
  | .bad => .bad
@[simp] theorem forL_nil (g : Val → M Unit) (b : M Flow) : forL g b [] ρ S = .ok .nx ρ S := rfl
@[simp] theorem forL_cons (g : Val → M Unit) (b : M Flow) (x : Val) (r : List Val) : forL g b (x :: r) ρ S = bndK (g x ρ S) fun _ ρ S => forK (b ρ S) g b r := by
  show bndK (g x ρ S) _ = _
  congr 1
  funext _ ρ S
  show bndK (b ρ S) _ = _
  cases b ρ S with
  | ok a ρ' S' => cases a <;> rfl
  | exc _ _ _ _ => rfl
  | bad => rfl
@[simp] theorem forK_nx (g : Val → M Unit) (b : M Flow) (r : List Val) : forK (.ok .nx ρ S) g b r = forL g b r ρ S := rfl
@[simp] theorem forK_rt (g : Val → M Unit) (b : M Flow) (r : List Val) (v : RVal) : forK (.ok (.rt v) ρ S) g b r = .ok (.rt v) ρ S := rfl
@[simp] theorem optAt_some (a : α) : optAt (some a) ρ S = .ok a ρ S := rfl
@[simp] theorem pres_nil : pres c [] ρ S = .ok [] ρ S := rfl
@[simp] theorem pres_cons (o : Opd) (r : List Opd) : pres c (o :: r) ρ S = bndK (o.pre c ρ S) fun v => Lk.bnd (pres c r) fun vs => Lk.ret (v :: vs) := rfl
@[simp] theorem pre_sl (i : Nat) : Opd.pre c (.sl i) ρ S = bndK (readB i ρ S) fun _ => Lk.ret none := rfl
@[simp] theorem pre_ex (f : Caller → M Val) : Opd.pre c (.ex f) ρ S = bndK (f c ρ S) fun v => Lk.ret (some v) := rfl
@[simp] theorem argsM_nil : argsM c [] ρ S = .ok [] ρ S := rfl
@[simp] theorem argsM_cons (f : FE) (r : List FE) : argsM c (f :: r) ρ S = bndK (f c ρ S) fun v => Lk.bnd (argsM c r) fun vs => Lk.ret (v.val :: vs) := rfl
@[simp] theorem dispM_nil (acc : List (Val × Val)) : dispM c [] acc ρ S = .ok acc ρ S := rfl
@[simp] theorem dispM_cons (fk fv : FE) (r : List (FE × FE)) (acc : List (Val × Val)) : dispM c ((fk, fv) :: r) acc ρ S = bndK (fk c ρ S) fun k => Lk.bnd (fv c) fun v => if leaf k.val then dispM c r (acc ++ [(k.val, v.val)]) else Lk.fail := by
  show bndK (bndK (fk c ρ S) fun r => Lk.ret r.val) _ = _
  cases fk c ρ S with
  | ok a ρ' S' =>
    simp only [bndK_ok, ret_ap, bnd_ap, valM_ap]
    cases fv c ρ' S' <;> rfl
  | exc _ _ _ _ => rfl
  | bad => rfl
end
section
variable {ρ : Env} {S : Mem}
@[simp] theorem val_fz (v : Val) : (RVal.fz v).val = v := rfl
@[simp] theorem val_fl (v : List Val) : (RVal.fl v).val = .lst v := rfl
@[simp] theorem val_fd (v : List (Val × Val)) : (RVal.fd v).val = .dic v := rfl
@[simp] theorem slot_fz (v : Val) : (RVal.fz v).slot = .pv v := rfl
@[simp] theorem slot_fl (v : List Val) : (RVal.fl v).slot = .ol v := rfl
@[simp] theorem slot_fd (v : List (Val × Val)) : (RVal.fd v).slot = .od v := rfl
@[simp] theorem view_non : view S .non = .non := rfl
@[simp] theorem view_bl (b : Bool) : view S (.bl b) = .bl b := rfl
@[simp] theorem view_int (b : Int) : view S (.int b) = .int b := rfl
@[simp] theorem view_str (b : Str) : view S (.str b) = .str b := rfl
@[simp] theorem view_tup (b : List Val) : view S (.tup b) = .tup b := rfl
@[simp] theorem view_lst (b : List Val) : view S (.lst b) = .lst b := rfl
@[simp] theorem view_dic (b : List (Val × Val)) : view S (.dic b) = .dic b := rfl
@[simp] theorem asg_nm (i : Nat) (r : RVal) : asg (.nm i) r = setS i r.slot := by simp only [asg]
@[simp] theorem asg_tp (ts : List Tgt) (vs : List Val) : asg (.tp ts) (.fz (.tup vs)) ρ S = (if ts.length = vs.length then asgs ts vs else Lk.fail) ρ S := by simp only [asg]
@[simp] theorem asgs_nil : asgs [] [] ρ S = .ok () ρ S := by simp only [asgs, Lk.ret]
@[simp] theorem asgs_cons (t : Tgt) (ts : List Tgt) (v : Val) (vs : List Val) : asgs (t :: ts) (v :: vs) ρ S = bndK (asg t (.fz v) ρ S) fun _ => asgs ts vs := by simp only [asgs]; rfl
@[simp] theorem slotV_pv (v : Val) : slotV (.pv v) = some v := rfl
@[simp] theorem slotV_ol (v : List Val) : slotV (.ol v) = some (.lst v) := rfl
@[simp] theorem slotV_od (v : List (Val × Val)) : slotV (.od v) = some (.dic v) := rfl
@[simp] theorem two_ap (p : Val → Val → Option RVal) (a b : Val) : two p [a, b] = p a b := rfl
end
def blkK {α : Type} (own : List Nat) (ρ : Env) (o : Out α) : Out α := match o with
  | .ok a ρ2 S2 => .ok a (back ρ own ρ2) S2
  | _ => .bad
section
variable {α : Type} {c : Caller} {ρ ρ2 : Env} {S S2 : Mem} {own : List Nat} {g : Val → M Unit} {t : M Bool} {e : M Val}
@[simp] theorem compM_ap (fi : Caller → M (List Val)) (tg : Tgt) (ft : Caller → M Bool) (fe : Caller → M RVal) : compM fi own tg ft fe c ρ S = bndK (fi c ρ S) fun xs => Lk.bnd (inBlock own (compL own (fun x => asg tg (.fz x)) (ft c) (valM (fe c)) xs)) fun vs => Lk.ret (.fl vs) := rfl
@[simp] theorem inBlock_ap (m : M α) : inBlock own m ρ S = if canHide own ρ then blkK own ρ (m ρ S) else .bad := rfl
@[simp] theorem blkK_ok (a : α) : blkK own ρ (.ok a ρ2 S2) = .ok a (back ρ own ρ2) S2 := rfl
@[simp] theorem compL_nil : compL own g t e [] ρ S = .ok [] (hideE own ρ) S := rfl
@[simp] theorem compL_cons (x : Val) (r : List Val) : compL own g t e (x :: r) ρ S = bndK (g x (hideE own ρ) S) fun _ => Lk.bnd t fun b => if b then Lk.bnd e fun v => Lk.bnd (compL own g t e r) fun vs => Lk.ret (v :: vs) else compL own g t e r := rfl
end
@[simp] theorem sne0_1 : (Str.ofString "" = Str.ofString "a") = False := eq_false (by decide)
@[simp] theorem sne0_2 : (Str.ofString "" = Str.ofString "and") = False := eq_false (by decide)
@[simp] theorem sne0_3 : (Str.ofString "" = Str.ofString "b") = False := eq_false (by decide)
@[simp] theorem sne0_4 : (Str.ofString "" = Str.ofString "column") = False := eq_false (by decide)
@[simp] theorem sne0_5 : (Str.ofString "" = Str.ofString "if") = False := eq_false (by decide)
@[simp] theorem sne0_6 : (Str.ofString "" = Str.ofString "is") = False := eq_false (by decide)
@[simp] theorem sne0_7 : (Str.ofString "" = Str.ofString "k") = False := eq_false (by decide)
@[simp] theorem sne0_8 : (Str.ofString "" = Str.ofString "less") = False := eq_false (by decide)
@[simp] theorem sne0_9 : (Str.ofString "" = Str.ofString "missing") = False := eq_false (by decide)
@[simp] theorem sne0_10 : (Str.ofString "" = Str.ofString "none") = False := eq_false (by decide)
@[simp] theorem sne0_11 : (Str.ofString "" = Str.ofString "not") = False := eq_false (by decide)
@[simp] theorem sne0_12 : (Str.ofString "" = Str.ofString "number") = False := eq_false (by decide)
@[simp] theorem sne0_13 : (Str.ofString "" = Str.ofString "or") = False := eq_false (by decide)
@[simp] theorem sne0_14 : (Str.ofString "" = Str.ofString "text") = False := eq_false (by decide)
@[simp] theorem sne0_15 : (Str.ofString "" = Str.ofString "x") = False := eq_false (by decide)
@[simp] theorem sne0_16 : (Str.ofString "" = Str.ofString "y") = False := eq_false (by decide)
@[simp] theorem sne0_17 : (Str.ofString "" = Str.ofString "yes") = False := eq_false (by decide)
@[simp] theorem sne1_0 : (Str.ofString "a" = Str.ofString "") = False := eq_false (by decide)
@[simp] theorem sne1_2 : (Str.ofString "a" = Str.ofString "and") = False := eq_false (by decide)
@[simp] theorem sne1_3 : (Str.ofString "a" = Str.ofString "b") = False := eq_false (by decide)
@[simp] theorem sne1_4 : (Str.ofString "a" = Str.ofString "column") = False := eq_false (by decide)
@[simp] theorem sne1_5 : (Str.ofString "a" = Str.ofString "if") = False := eq_false (by decide)
@[simp] theorem sne1_6 : (Str.ofString "a" = Str.ofString "is") = False := eq_false (by decide)
@[simp] theorem sne1_7 : (Str.ofString "a" = Str.ofString "k") = False := eq_false (by decide)
@[simp] theorem sne1_8 : (Str.ofString "a" = Str.ofString "less") = False := eq_false (by decide)
@[simp] theorem sne1_9 : (Str.ofString "a" = Str.ofString "missing") = False := eq_false (by decide)
@[simp] theorem sne1_10 : (Str.ofString "a" = Str.ofString "none") = False := eq_false (by decide)
@[simp] theorem sne1_11 : (Str.ofString "a" = Str.ofString "not") = False := eq_false (by decide)
@[simp] theorem sne1_12 : (Str.ofString "a" = Str.ofString "number") = False := eq_false (by decide)
@[simp] theorem sne1_13 : (Str.ofString "a" = Str.ofString "or") = False := eq_false (by decide)
@[simp] theorem sne1_14 : (Str.ofString "a" = Str.ofString "text") = False := eq_false (by decide)
@[simp] theorem sne1_15 : (Str.ofString "a" = Str.ofString "x") = False := eq_false (by decide)
@[simp] theorem sne1_16 : (Str.ofString "a" = Str.ofString "y") = False := eq_false (by decide)
@[simp] theorem sne1_17 : (Str.ofString "a" = Str.ofString "yes") = False := eq_false (by decide)
@[simp] theorem sne2_0 : (Str.ofString "and" = Str.ofString "") = False := eq_false (by decide)
@[simp] theorem sne2_1 : (Str.ofString "and" = Str.ofString "a") = False := eq_false (by decide)
@[simp] theorem sne2_3 : (Str.ofString "and" = Str.ofString "b") = False := eq_false (by decide)
@[simp] theorem sne2_4 : (Str.ofString "and" = Str.ofString "column") = False := eq_false (by decide)
@[simp] theorem sne2_5 : (Str.ofString "and" = Str.ofString "if") = False := eq_false (by decide)
@[simp] theorem sne2_6 : (Str.ofString "and" = Str.ofString "is") = False := eq_false (by decide)
@[simp] theorem sne2_7 : (Str.ofString "and" = Str.ofString "k") = False := eq_false (by decide)
@[simp] theorem sne2_8 : (Str.ofString "and" = Str.ofString "less") = False := eq_false (by decide)
@[simp] theorem sne2_9 : (Str.ofString "and" = Str.ofString "missing") = False := eq_false (by decide)
@[simp] theorem sne2_10 : (Str.ofString "and" = Str.ofString "none") = False := eq_false (by decide)
@[simp] theorem sne2_11 : (Str.ofString "and" = Str.ofString "not") = False := eq_false (by decide)
@[simp] theorem sne2_12 : (Str.ofString "and" = Str.ofString "number") = False := eq_false (by decide)
@[simp] theorem sne2_13 : (Str.ofString "and" = Str.ofString "or") = False := eq_false (by decide)
@[simp] theorem sne2_14 : (Str.ofString "and" = Str.ofString "text") = False := eq_false (by decide)
@[simp] theorem sne2_15 : (Str.ofString "and" = Str.ofString "x") = False := eq_false (by decide)
@[simp] theorem sne2_16 : (Str.ofString "and" = Str.ofString "y") = False := eq_false (by decide)
@[simp] theorem sne2_17 : (Str.ofString "and" = Str.ofString "yes") = False := eq_false (by decide)
@[simp] theorem sne3_0 : (Str.ofString "b" = Str.ofString "") = False := eq_false (by decide)
@[simp] theorem sne3_1 : (Str.ofString "b" = Str.ofString "a") = False := eq_false (by decide)
@[simp] theorem sne3_2 : (Str.ofString "b" = Str.ofString "and") = False := eq_false (by decide)
@[simp] theorem sne3_4 : (Str.ofString "b" = Str.ofString "column") = False := eq_false (by decide)
@[simp] theorem sne3_5 : (Str.ofString "b" = Str.ofString "if") = False := eq_false (by decide)
@[simp] theorem sne3_6 : (Str.ofString "b" = Str.ofString "is") = False := eq_false (by decide)
@[simp] theorem sne3_7 : (Str.ofString "b" = Str.ofString "k") = False := eq_false (by decide)
@[simp] theorem sne3_8 : (Str.ofString "b" = Str.ofString "less") = False := eq_false (by decide)
@[simp] theorem sne3_9 : (Str.ofString "b" = Str.ofString "missing") = False := eq_false (by decide)
@[simp] theorem sne3_10 : (Str.ofString "b" = Str.ofString "none") = False := eq_false (by decide)
@[simp] theorem sne3_11 : (Str.ofString "b" = Str.ofString "not") = False := eq_false (by decide)
@[simp] theorem sne3_12 : (Str.ofString "b" = Str.ofString "number") = False := eq_false (by decide)
@[simp] theorem sne3_13 : (Str.ofString "b" = Str.ofString "or") = False := eq_false (by decide)
@[simp] theorem sne3_14 : (Str.ofString "b" = Str.ofString "text") = False := eq_false (by decide)
@[simp] theorem sne3_15 : (Str.ofString "b" = Str.ofString "x") = False := eq_false (by decide)
@[simp] theorem sne3_16 : (Str.ofString "b" = Str.ofString "y") = False := eq_false (by decide)
@[simp] theorem sne3_17 : (Str.ofString "b" = Str.ofString "yes") = False := eq_false (by decide)
@[simp] theorem sne4_0 : (Str.ofString "column" = Str.ofString "") = False := eq_false (by decide)
@[simp] theorem sne4_1 : (Str.ofString "column" = Str.ofString "a") = False := eq_false (by decide)
@[simp] theorem sne4_2 : (Str.ofString "column" = Str.ofString "and") = False := eq_false (by decide)
@[simp] theorem sne4_3 : (Str.ofString "column" = Str.ofString "b") = False := eq_false (by decide)
@[simp] theorem sne4_5 : (Str.ofString "column" = Str.ofString "if") = False := eq_false (by decide)
@[simp] theorem sne4_6 : (Str.ofString "column" = Str.ofString "is") = False := eq_false (by decide)
@[simp] theorem sne4_7 : (Str.ofString "column" = Str.ofString "k") = False := eq_false (by decide)
@[simp] theorem sne4_8 : (Str.ofString "column" = Str.ofString "less") = False := eq_false (by decide)
@[simp] theorem sne4_9 : (Str.ofString "column" = Str.ofString "missing") = False := eq_false (by decide)
@[simp] theorem sne4_10 : (Str.ofString "column" = Str.ofString "none") = False := eq_false (by decide)
@[simp] theorem sne4_11 : (Str.ofString "column" = Str.ofString "not") = False := eq_false (by decide)
@[simp] theorem sne4_12 : (Str.ofString "column" = Str.ofString "number") = False := eq_false (by decide)
@[simp] theorem sne4_13 : (Str.ofString "column" = Str.ofString "or") = False := eq_false (by decide)
@[simp] theorem sne4_14 : (Str.ofString "column" = Str.ofString "text") = False := eq_false (by decide)
@[simp] theorem sne4_15 : (Str.ofString "column" = Str.ofString "x") = False := eq_false (by decide)
@[simp] theorem sne4_16 : (Str.ofString "column" = Str.ofString "y") = False := eq_false (by decide)
@[simp] theorem sne4_17 : (Str.ofString "column" = Str.ofString "yes") = False := eq_false (by decide)
@[simp] theorem sne5_0 : (Str.ofString "if" = Str.ofString "") = False := eq_false (by decide)
@[simp] theorem sne5_1 : (Str.ofString "if" = Str.ofString "a") = False := eq_false (by decide)
@[simp] theorem sne5_2 : (Str.ofString "if" = Str.ofString "and") = False := eq_false (by decide)
@[simp] theorem sne5_3 : (Str.ofString "if" = Str.ofString "b") = False := eq_false (by decide)
@[simp] theorem sne5_4 : (Str.ofString "if" = Str.ofString "column") = False := eq_false (by decide)
@[simp] theorem sne5_6 : (Str.ofString "if" = Str.ofString "is") = False := eq_false (by decide)
@[simp] theorem sne5_7 : (Str.ofString "if" = Str.ofString "k") = False := eq_false (by decide)
@[simp] theorem sne5_8 : (Str.ofString "if" = Str.ofString "less") = False := eq_false (by decide)
@[simp] theorem sne5_9 : (Str.ofString "if" = Str.ofString "missing") = False := eq_false (by decide)
@[simp] theorem sne5_10 : (Str.ofString "if" = Str.ofString "none") = False := eq_false (by decide)
@[simp] theorem sne5_11 : (Str.ofString "if" = Str.ofString "not") = False := eq_false (by decide)
@[simp] theorem sne5_12 : (Str.ofString "if" = Str.ofString "number") = False := eq_false (by decide)
@[simp] theorem sne5_13 : (Str.ofString "if" = Str.ofString "or") = False := eq_false (by decide)
@[simp] theorem sne5_14 : (Str.ofString "if" = Str.ofString "text") = False := eq_false (by decide)
@[simp] theorem sne5_15 : (Str.ofString "if" = Str.ofString "x") = False := eq_false (by decide)
@[simp] theorem sne5_16 : (Str.ofString "if" = Str.ofString "y") = False := eq_false (by decide)
@[simp] theorem sne5_17 : (Str.ofString "if" = Str.ofString "yes") = False := eq_false (by decide)
@[simp] theorem sne6_0 : (Str.ofString "is" = Str.ofString "") = False := eq_false (by decide)
@[simp] theorem sne6_1 : (Str.ofString "is" = Str.ofString "a") = False := eq_false (by decide)
@[simp] theorem sne6_2 : (Str.ofString "is" = Str.ofString "and") = False := eq_false (by decide)
@[simp] theorem sne6_3 : (Str.ofString "is" = Str.ofString "b") = False := eq_false (by decide)
@[simp] theorem sne6_4 : (Str.ofString "is" = Str.ofString "column") = False := eq_false (by decide)
@[simp] theorem sne6_5 : (Str.ofString "is" = Str.ofString "if") = False := eq_false (by decide)
@[simp] theorem sne6_7 : (Str.ofString "is" = Str.ofString "k") = False := eq_false (by decide)
@[simp] theorem sne6_8 : (Str.ofString "is" = Str.ofString "less") = False := eq_false (by decide)
@[simp] theorem sne6_9 : (Str.ofString "is" = Str.ofString "missing") = False := eq_false (by decide)
@[simp] theorem sne6_10 : (Str.ofString "is" = Str.ofString "none") = False := eq_false (by decide)
@[simp] theorem sne6_11 : (Str.ofString "is" = Str.ofString "not") = False := eq_false (by decide)
@[simp] theorem sne6_12 : (Str.ofString "is" = Str.ofString "number") = False := eq_false (by decide)
@[simp] theorem sne6_13 : (Str.ofString "is" = Str.ofString "or") = False := eq_false (by decide)
@[simp] theorem sne6_14 : (Str.ofString "is" = Str.ofString "text") = False := eq_false (by decide)
@[simp] theorem sne6_15 : (Str.ofString "is" = Str.ofString "x") = False := eq_false (by decide)
@[simp] theorem sne6_16 : (Str.ofString "is" = Str.ofString "y") = False := eq_false (by decide)
@[simp] theorem sne6_17 : (Str.ofString "is" = Str.ofString "yes") = False := eq_false (by decide)
@[simp] theorem sne7_0 : (Str.ofString "k" = Str.ofString "") = False := eq_false (by decide)
@[simp] theorem sne7_1 : (Str.ofString "k" = Str.ofString "a") = False := eq_false (by decide)
@[simp] theorem sne7_2 : (Str.ofString "k" = Str.ofString "and") = False := eq_false (by decide)
@[simp] theorem sne7_3 : (Str.ofString "k" = Str.ofString "b") = False := eq_false (by decide)
@[simp] theorem sne7_4 : (Str.ofString "k" = Str.ofString "column") = False := eq_false (by decide)
@[simp] theorem sne7_5 : (Str.ofString "k" = Str.ofString "if") = False := eq_false (by decide)
@[simp] theorem sne7_6 : (Str.ofString "k" = Str.ofString "is") = False := eq_false (by decide)
@[simp] theorem sne7_8 : (Str.ofString "k" = Str.ofString "less") = False := eq_false (by decide)
@[simp] theorem sne7_9 : (Str.ofString "k" = Str.ofString "missing") = False := eq_false (by decide)
@[simp] theorem sne7_10 : (Str.ofString "k" = Str.ofString "none") = False := eq_false (by decide)
@[simp] theorem sne7_11 : (Str.ofString "k" = Str.ofString "not") = False := eq_false (by decide)
@[simp] theorem sne7_12 : (Str.ofString "k" = Str.ofString "number") = False := eq_false (by decide)
@[simp] theorem sne7_13 : (Str.ofString "k" = Str.ofString "or") = False := eq_false (by decide)
@[simp] theorem sne7_14 : (Str.ofString "k" = Str.ofString "text") = False := eq_false (by decide)
@[simp] theorem sne7_15 : (Str.ofString "k" = Str.ofString "x") = False := eq_false (by decide)
@[simp] theorem sne7_16 : (Str.ofString "k" = Str.ofString "y") = False := eq_false (by decide)
@[simp] theorem sne7_17 : (Str.ofString "k" = Str.ofString "yes") = False := eq_false (by decide)
@[simp] theorem sne8_0 : (Str.ofString "less" = Str.ofString "") = False := eq_false (by decide)
@[simp] theorem sne8_1 : (Str.ofString "less" = Str.ofString "a") = False := eq_false (by decide)
@[simp] theorem sne8_2 : (Str.ofString "less" = Str.ofString "and") = False := eq_false (by decide)
@[simp] theorem sne8_3 : (Str.ofString "less" = Str.ofString "b") = False := eq_false (by decide)
@[simp] theorem sne8_4 : (Str.ofString "less" = Str.ofString "column") = False := eq_false (by decide)
@[simp] theorem sne8_5 : (Str.ofString "less" = Str.ofString "if") = False := eq_false (by decide)
@[simp] theorem sne8_6 : (Str.ofString "less" = Str.ofString "is") = False := eq_false (by decide)
@[simp] theorem sne8_7 : (Str.ofString "less" = Str.ofString "k") = False := eq_false (by decide)
@[simp] theorem sne8_9 : (Str.ofString "less" = Str.ofString "missing") = False := eq_false (by decide)
@[simp] theorem sne8_10 : (Str.ofString "less" = Str.ofString "none") = False := eq_false (by decide)
@[simp] theorem sne8_11 : (Str.ofString "less" = Str.ofString "not") = False := eq_false (by decide)
@[simp] theorem sne8_12 : (Str.ofString "less" = Str.ofString "number") = False := eq_false (by decide)
@[simp] theorem sne8_13 : (Str.ofString "less" = Str.ofString "or") = False := eq_false (by decide)
@[simp] theorem sne8_14 : (Str.ofString "less" = Str.ofString "text") = False := eq_false (by decide)
@[simp] theorem sne8_15 : (Str.ofString "less" = Str.ofString "x") = False := eq_false (by decide)
@[simp] theorem sne8_16 : (Str.ofString "less" = Str.ofString "y") = False := eq_false (by decide)
@[simp] theorem sne8_17 : (Str.ofString "less" = Str.ofString "yes") = False := eq_false (by decide)
@[simp] theorem sne9_0 : (Str.ofString "missing" = Str.ofString "") = False := eq_false (by decide)
@[simp] theorem sne9_1 : (Str.ofString "missing" = Str.ofString "a") = False := eq_false (by decide)
@[simp] theorem sne9_2 : (Str.ofString "missing" = Str.ofString "and") = False := eq_false (by decide)
@[simp] theorem sne9_3 : (Str.ofString "missing" = Str.ofString "b") = False := eq_false (by decide)
@[simp] theorem sne9_4 : (Str.ofString "missing" = Str.ofString "column") = False := eq_false (by decide)
@[simp] theorem sne9_5 : (Str.ofString "missing" = Str.ofString "if") = False := eq_false (by decide)
@[simp] theorem sne9_6 : (Str.ofString "missing" = Str.ofString "is") = False := eq_false (by decide)
@[simp] theorem sne9_7 : (Str.ofString "missing" = Str.ofString "k") = False := eq_false (by decide)
@[simp] theorem sne9_8 : (Str.ofString "missing" = Str.ofString "less") = False := eq_false (by decide)
@[simp] theorem sne9_10 : (Str.ofString "missing" = Str.ofString "none") = False := eq_false (by decide)
@[simp] theorem sne9_11 : (Str.ofString "missing" = Str.ofString "not") = False := eq_false (by decide)
@[simp] theorem sne9_12 : (Str.ofString "missing" = Str.ofString "number") = False := eq_false (by decide)
@[simp] theorem sne9_13 : (Str.ofString "missing" = Str.ofString "or") = False := eq_false (by decide)
@[simp] theorem sne9_14 : (Str.ofString "missing" = Str.ofString "text") = False := eq_false (by decide)
@[simp] theorem sne9_15 : (Str.ofString "missing" = Str.ofString "x") = False := eq_false (by decide)
@[simp] theorem sne9_16 : (Str.ofString "missing" = Str.ofString "y") = False := eq_false (by decide)
@[simp] theorem sne9_17 : (Str.ofString "missing" = Str.ofString "yes") = False := eq_false (by decide)
@[simp] theorem sne10_0 : (Str.ofString "none" = Str.ofString "") = False := eq_false (by decide)
@[simp] theorem sne10_1 : (Str.ofString "none" = Str.ofString "a") = False := eq_false (by decide)
@[simp] theorem sne10_2 : (Str.ofString "none" = Str.ofString "and") = False := eq_false (by decide)
@[simp] theorem sne10_3 : (Str.ofString "none" = Str.ofString "b") = False := eq_false (by decide)
@[simp] theorem sne10_4 : (Str.ofString "none" = Str.ofString "column") = False := eq_false (by decide)
@[simp] theorem sne10_5 : (Str.ofString "none" = Str.ofString "if") = False := eq_false (by decide)
@[simp] theorem sne10_6 : (Str.ofString "none" = Str.ofString "is") = False := eq_false (by decide)
@[simp] theorem sne10_7 : (Str.ofString "none" = Str.ofString "k") = False := eq_false (by decide)
@[simp] theorem sne10_8 : (Str.ofString "none" = Str.ofString "less") = False := eq_false (by decide)
@[simp] theorem sne10_9 : (Str.ofString "none" = Str.ofString "missing") = False := eq_false (by decide)
@[simp] theorem sne10_11 : (Str.ofString "none" = Str.ofString "not") = False := eq_false (by decide)
@[simp] theorem sne10_12 : (Str.ofString "none" = Str.ofString "number") = False := eq_false (by decide)
@[simp] theorem sne10_13 : (Str.ofString "none" = Str.ofString "or") = False := eq_false (by decide)
@[simp] theorem sne10_14 : (Str.ofString "none" = Str.ofString "text") = False := eq_false (by decide)
@[simp] theorem sne10_15 : (Str.ofString "none" = Str.ofString "x") = False := eq_false (by decide)
@[simp] theorem sne10_16 : (Str.ofString "none" = Str.ofString "y") = False := eq_false (by decide)
@[simp] theorem sne10_17 : (Str.ofString "none" = Str.ofString "yes") = False := eq_false (by decide)
@[simp] theorem sne11_0 : (Str.ofString "not" = Str.ofString "") = False := eq_false (by decide)
@[simp] theorem sne11_1 : (Str.ofString "not" = Str.ofString "a") = False := eq_false (by decide)
@[simp] theorem sne11_2 : (Str.ofString "not" = Str.ofString "and") = False := eq_false (by decide)
@[simp] theorem sne11_3 : (Str.ofString "not" = Str.ofString "b") = False := eq_false (by decide)
@[simp] theorem sne11_4 : (Str.ofString "not" = Str.ofString "column") = False := eq_false (by decide)
@[simp] theorem sne11_5 : (Str.ofString "not" = Str.ofString "if") = False := eq_false (by decide)
@[simp] theorem sne11_6 : (Str.ofString "not" = Str.ofString "is") = False := eq_false (by decide)
@[simp] theorem sne11_7 : (Str.ofString "not" = Str.ofString "k") = False := eq_false (by decide)
@[simp] theorem sne11_8 : (Str.ofString "not" = Str.ofString "less") = False := eq_false (by decide)
@[simp] theorem sne11_9 : (Str.ofString "not" = Str.ofString "missing") = False := eq_false (by decide)
@[simp] theorem sne11_10 : (Str.ofString "not" = Str.ofString "none") = False := eq_false (by decide)
@[simp] theorem sne11_12 : (Str.ofString "not" = Str.ofString "number") = False := eq_false (by decide)
@[simp] theorem sne11_13 : (Str.ofString "not" = Str.ofString "or") = False := eq_false (by decide)
@[simp] theorem sne11_14 : (Str.ofString "not" = Str.ofString "text") = False := eq_false (by decide)
@[simp] theorem sne11_15 : (Str.ofString "not" = Str.ofString "x") = False := eq_false (by decide)
@[simp] theorem sne11_16 : (Str.ofString "not" = Str.ofString "y") = False := eq_false (by decide)
@[simp] theorem sne11_17 : (Str.ofString "not" = Str.ofString "yes") = False := eq_false (by decide)
@[simp] theorem sne12_0 : (Str.ofString "number" = Str.ofString "") = False := eq_false (by decide)
@[simp] theorem sne12_1 : (Str.ofString "number" = Str.ofString "a") = False := eq_false (by decide)
@[simp] theorem sne12_2 : (Str.ofString "number" = Str.ofString "and") = False := eq_false (by decide)
@[simp] theorem sne12_3 : (Str.ofString "number" = Str.ofString "b") = False := eq_false (by decide)
@[simp] theorem sne12_4 : (Str.ofString "number" = Str.ofString "column") = False := eq_false (by decide)
@[simp] theorem sne12_5 : (Str.ofString "number" = Str.ofString "if") = False := eq_false (by decide)
@[simp] theorem sne12_6 : (Str.ofString "number" = Str.ofString "is") = False := eq_false (by decide)
@[simp] theorem sne12_7 : (Str.ofString "number" = Str.ofString "k") = False := eq_false (by decide)
@[simp] theorem sne12_8 : (Str.ofString "number" = Str.ofString "less") = False := eq_false (by decide)
@[simp] theorem sne12_9 : (Str.ofString "number" = Str.ofString "missing") = False := eq_false (by decide)
@[simp] theorem sne12_10 : (Str.ofString "number" = Str.ofString "none") = False := eq_false (by decide)
@[simp] theorem sne12_11 : (Str.ofString "number" = Str.ofString "not") = False := eq_false (by decide)
@[simp] theorem sne12_13 : (Str.ofString "number" = Str.ofString "or") = False := eq_false (by decide)
@[simp] theorem sne12_14 : (Str.ofString "number" = Str.ofString "text") = False := eq_false (by decide)
@[simp] theorem sne12_15 : (Str.ofString "number" = Str.ofString "x") = False := eq_false (by decide)
@[simp] theorem sne12_16 : (Str.ofString "number" = Str.ofString "y") = False := eq_false (by decide)
@[simp] theorem sne12_17 : (Str.ofString "number" = Str.ofString "yes") = False := eq_false (by decide)
@[simp] theorem sne13_0 : (Str.ofString "or" = Str.ofString "") = False := eq_false (by decide)
@[simp] theorem sne13_1 : (Str.ofString "or" = Str.ofString "a") = False := eq_false (by decide)
@[simp] theorem sne13_2 : (Str.ofString "or" = Str.ofString "and") = False := eq_false (by decide)
@[simp] theorem sne13_3 : (Str.ofString "or" = Str.ofString "b") = False := eq_false (by decide)
@[simp] theorem sne13_4 : (Str.ofString "or" = Str.ofString "column") = False := eq_false (by decide)
@[simp] theorem sne13_5 : (Str.ofString "or" = Str.ofString "if") = False := eq_false (by decide)
@[simp] theorem sne13_6 : (Str.ofString "or" = Str.ofString "is") = False := eq_false (by decide)
@[simp] theorem sne13_7 : (Str.ofString "or" = Str.ofString "k") = False := eq_false (by decide)
@[simp] theorem sne13_8 : (Str.ofString "or" = Str.ofString "less") = False := eq_false (by decide)
@[simp] theorem sne13_9 : (Str.ofString "or" = Str.ofString "missing") = False := eq_false (by decide)
@[simp] theorem sne13_10 : (Str.ofString "or" = Str.ofString "none") = False := eq_false (by decide)
@[simp] theorem sne13_11 : (Str.ofString "or" = Str.ofString "not") = False := eq_false (by decide)
@[simp] theorem sne13_12 : (Str.ofString "or" = Str.ofString "number") = False := eq_false (by decide)
@[simp] theorem sne13_14 : (Str.ofString "or" = Str.ofString "text") = False := eq_false (by decide)
@[simp] theorem sne13_15 : (Str.ofString "or" = Str.ofString "x") = False := eq_false (by decide)
@[simp] theorem sne13_16 : (Str.ofString "or" = Str.ofString "y") = False := eq_false (by decide)
@[simp] theorem sne13_17 : (Str.ofString "or" = Str.ofString "yes") = False := eq_false (by decide)
@[simp] theorem sne14_0 : (Str.ofString "text" = Str.ofString "") = False := eq_false (by decide)
@[simp] theorem sne14_1 : (Str.ofString "text" = Str.ofString "a") = False := eq_false (by decide)
@[simp] theorem sne14_2 : (Str.ofString "text" = Str.ofString "and") = False := eq_false (by decide)
@[simp] theorem sne14_3 : (Str.ofString "text" = Str.ofString "b") = False := eq_false (by decide)
@[simp] theorem sne14_4 : (Str.ofString "text" = Str.ofString "column") = False := eq_false (by decide)
@[simp] theorem sne14_5 : (Str.ofString "text" = Str.ofString "if") = False := eq_false (by decide)
@[simp] theorem sne14_6 : (Str.ofString "text" = Str.ofString "is") = False := eq_false (by decide)
@[simp] theorem sne14_7 : (Str.ofString "text" = Str.ofString "k") = False := eq_false (by decide)
@[simp] theorem sne14_8 : (Str.ofString "text" = Str.ofString "less") = False := eq_false (by decide)
@[simp] theorem sne14_9 : (Str.ofString "text" = Str.ofString "missing") = False := eq_false (by decide)
@[simp] theorem sne14_10 : (Str.ofString "text" = Str.ofString "none") = False := eq_false (by decide)
@[simp] theorem sne14_11 : (Str.ofString "text" = Str.ofString "not") = False := eq_false (by decide)
@[simp] theorem sne14_12 : (Str.ofString "text" = Str.ofString "number") = False := eq_false (by decide)
@[simp] theorem sne14_13 : (Str.ofString "text" = Str.ofString "or") = False := eq_false (by decide)
@[simp] theorem sne14_15 : (Str.ofString "text" = Str.ofString "x") = False := eq_false (by decide)
@[simp] theorem sne14_16 : (Str.ofString "text" = Str.ofString "y") = False := eq_false (by decide)
@[simp] theorem sne14_17 : (Str.ofString "text" = Str.ofString "yes") = False := eq_false (by decide)
@[simp] theorem sne15_0 : (Str.ofString "x" = Str.ofString "") = False := eq_false (by decide)
@[simp] theorem sne15_1 : (Str.ofString "x" = Str.ofString "a") = False := eq_false (by decide)
@[simp] theorem sne15_2 : (Str.ofString "x" = Str.ofString "and") = False := eq_false (by decide)
@[simp] theorem sne15_3 : (Str.ofString "x" = Str.ofString "b") = False := eq_false (by decide)
@[simp] theorem sne15_4 : (Str.ofString "x" = Str.ofString "column") = False := eq_false (by decide)
@[simp] theorem sne15_5 : (Str.ofString "x" = Str.ofString "if") = False := eq_false (by decide)
@[simp] theorem sne15_6 : (Str.ofString "x" = Str.ofString "is") = False := eq_false (by decide)
@[simp] theorem sne15_7 : (Str.ofString "x" = Str.ofString "k") = False := eq_false (by decide)
@[simp] theorem sne15_8 : (Str.ofString "x" = Str.ofString "less") = False := eq_false (by decide)
@[simp] theorem sne15_9 : (Str.ofString "x" = Str.ofString "missing") = False := eq_false (by decide)
@[simp] theorem sne15_10 : (Str.ofString "x" = Str.ofString "none") = False := eq_false (by decide)
@[simp] theorem sne15_11 : (Str.ofString "x" = Str.ofString "not") = False := eq_false (by decide)
@[simp] theorem sne15_12 : (Str.ofString "x" = Str.ofString "number") = False := eq_false (by decide)
@[simp] theorem sne15_13 : (Str.ofString "x" = Str.ofString "or") = False := eq_false (by decide)
@[simp] theorem sne15_14 : (Str.ofString "x" = Str.ofString "text") = False := eq_false (by decide)
@[simp] theorem sne15_16 : (Str.ofString "x" = Str.ofString "y") = False := eq_false (by decide)
@[simp] theorem sne15_17 : (Str.ofString "x" = Str.ofString "yes") = False := eq_false (by decide)
@[simp] theorem sne16_0 : (Str.ofString "y" = Str.ofString "") = False := eq_false (by decide)
@[simp] theorem sne16_1 : (Str.ofString "y" = Str.ofString "a") = False := eq_false (by decide)
@[simp] theorem sne16_2 : (Str.ofString "y" = Str.ofString "and") = False := eq_false (by decide)
@[simp] theorem sne16_3 : (Str.ofString "y" = Str.ofString "b") = False := eq_false (by decide)
@[simp] theorem sne16_4 : (Str.ofString "y" = Str.ofString "column") = False := eq_false (by decide)
@[simp] theorem sne16_5 : (Str.ofString "y" = Str.ofString "if") = False := eq_false (by decide)
@[simp] theorem sne16_6 : (Str.ofString "y" = Str.ofString "is") = False := eq_false (by decide)
@[simp] theorem sne16_7 : (Str.ofString "y" = Str.ofString "k") = False := eq_false (by decide)
@[simp] theorem sne16_8 : (Str.ofString "y" = Str.ofString "less") = False := eq_false (by decide)
@[simp] theorem sne16_9 : (Str.ofString "y" = Str.ofString "missing") = False := eq_false (by decide)
@[simp] theorem sne16_10 : (Str.ofString "y" = Str.ofString "none") = False := eq_false (by decide)
@[simp] theorem sne16_11 : (Str.ofString "y" = Str.ofString "not") = False := eq_false (by decide)
@[simp] theorem sne16_12 : (Str.ofString "y" = Str.ofString "number") = False := eq_false (by decide)
@[simp] theorem sne16_13 : (Str.ofString "y" = Str.ofString "or") = False := eq_false (by decide)
@[simp] theorem sne16_14 : (Str.ofString "y" = Str.ofString "text") = False := eq_false (by decide)
@[simp] theorem sne16_15 : (Str.ofString "y" = Str.ofString "x") = False := eq_false (by decide)
@[simp] theorem sne16_17 : (Str.ofString "y" = Str.ofString "yes") = False := eq_false (by decide)
@[simp] theorem sne17_0 : (Str.ofString "yes" = Str.ofString "") = False := eq_false (by decide)
@[simp] theorem sne17_1 : (Str.ofString "yes" = Str.ofString "a") = False := eq_false (by decide)
@[simp] theorem sne17_2 : (Str.ofString "yes" = Str.ofString "and") = False := eq_false (by decide)
@[simp] theorem sne17_3 : (Str.ofString "yes" = Str.ofString "b") = False := eq_false (by decide)
@[simp] theorem sne17_4 : (Str.ofString "yes" = Str.ofString "column") = False := eq_false (by decide)
@[simp] theorem sne17_5 : (Str.ofString "yes" = Str.ofString "if") = False := eq_false (by decide)
@[simp] theorem sne17_6 : (Str.ofString "yes" = Str.ofString "is") = False := eq_false (by decide)
@[simp] theorem sne17_7 : (Str.ofString "yes" = Str.ofString "k") = False := eq_false (by decide)
@[simp] theorem sne17_8 : (Str.ofString "yes" = Str.ofString "less") = False := eq_false (by decide)
@[simp] theorem sne17_9 : (Str.ofString "yes" = Str.ofString "missing") = False := eq_false (by decide)
@[simp] theorem sne17_10 : (Str.ofString "yes" = Str.ofString "none") = False := eq_false (by decide)
@[simp] theorem sne17_11 : (Str.ofString "yes" = Str.ofString "not") = False := eq_false (by decide)
@[simp] theorem sne17_12 : (Str.ofString "yes" = Str.ofString "number") = False := eq_false (by decide)
@[simp] theorem sne17_13 : (Str.ofString "yes" = Str.ofString "or") = False := eq_false (by decide)
@[simp] theorem sne17_14 : (Str.ofString "yes" = Str.ofString "text") = False := eq_false (by decide)
@[simp] theorem sne17_15 : (Str.ofString "yes" = Str.ofString "x") = False := eq_false (by decide)
@[simp] theorem sne17_16 : (Str.ofString "yes" = Str.ofString "y") = False := eq_false (by decide)
end Lk
end

section
set_option Elab.async false
set_option linter.all false
set_option maxRecDepth 100000
namespace Law05
open PySem Lk
/-- value_of -/
def B0 : Caller → M Lk.Flow := (sqS [(ifS (truM (app [.ex (vE (app [.sl 1, .ex (vE (csE (.int 0)))] (two getV))), .ex (vE (csE (.str "column")))] (two eqV))) (sqS [(retE (app [.sl 0, .ex (vE (app [.sl 1, .ex (vE (csE (.int 1)))] (two getV)))] (two getV)))]) (sqS [])), (retE (ifE (truM (app [.ex (vE (app [.sl 1, .ex (vE (csE (.int 0)))] (two getV))), .ex (vE (csE (.str "none")))] (two eqV))) (csE .non) (app [.sl 1, .ex (vE (csE (.int 1)))] (two getV))))])
theorem body0 : F0.body = B0 := by kernel_rfl
/-- truth -/
def B1 : Caller → M Lk.Flow := (sqS [(ifS (truM (app [.ex (vE (app [.sl 1, .ex (vE (csE (.int 0)))] (two getV))), .ex (vE (csE (.str "yes")))] (two eqV))) (sqS [(retE (csE (.bl true)))]) (sqS [])), (ifS (truM (app [.ex (vE (app [.sl 1, .ex (vE (csE (.int 0)))] (two getV))), .ex (vE (csE (.str "missing")))] (two eqV))) (sqS [(retE (app [.ex (vE (callE 0 2 [(nmE 0), (app [.sl 1, .ex (vE (csE (.int 1)))] (two getV))] []))] (isNonV false)))]) (sqS [])), (ifS (truM (app [.ex (vE (app [.sl 1, .ex (vE (csE (.int 0)))] (two getV))), .ex (vE (csE (.str "not")))] (two eqV))) (sqS [(setE 2 false (callE 1 2 [(nmE 0), (app [.sl 1, .ex (vE (csE (.int 1)))] (two getV))] [])), (retE (ifE (truM (app [.sl 2] (isNonV false))) (csE .non) (notE (nmE 2))))]) (sqS [])), (ifS (truM (app [.ex (vE (app [.sl 1, .ex (vE (csE (.int 0)))] (two getV))), .ex (vE (tupE [(csE (.str "and")), (csE (.str "or"))]))] (two (inV false)))) (sqS [(setE 3 false (lstE [(callE 1 2 [(nmE 0), (app [.sl 1, .ex (vE (csE (.int 1)))] (two getV))] []), (callE 1 2 [(nmE 0), (app [.sl 1, .ex (vE (csE (.int 2)))] (two getV))] [])])), (setE 4 false (app [.ex (vE (app [.sl 1, .ex (vE (csE (.int 0)))] (two getV))), .ex (vE (csE (.str "or")))] (two eqV))), (ifS (truM (app [.sl 4, .sl 3] (two (inV false)))) (sqS [(fun _ => retSlot 4)]) (sqS [])), (retE (ifE (truM (app [.ex (vE (csE .non)), .sl 3] (two (inV false)))) (csE .non) (notE (nmE 4))))]) (sqS [])), (parE 5 6 [(callE 0 2 [(nmE 0), (app [.sl 1, .ex (vE (csE (.int 1)))] (two getV))] []), (callE 0 2 [(nmE 0), (app [.sl 1, .ex (vE (csE (.int 2)))] (two getV))] [])]), (ifS (fun c => andT .Or c [(truM (app [.sl 5] (isNonV false))), (truM (app [.sl 6] (isNonV false)))]) (sqS [(retE (csE .non))]) (sqS [])), (retE (ifE (truM (app [.ex (vE (app [.sl 1, .ex (vE (csE (.int 0)))] (two getV))), .ex (vE (csE (.str "less")))] (two eqV))) (app [.sl 5, .sl 6] (two ltV)) (app [.sl 5, .sl 6] (two eqV))))])
theorem body1 : F1.body = B1 := by kernel_rfl
/-- chosen -/
def B2 : Caller → M Lk.Flow := (sqS [(whE (truM (app [.ex (vE (app [.sl 1, .ex (vE (csE (.int 0)))] (two getV))), .ex (vE (csE (.str "if")))] (two eqV))) (sqS [(setE 1 false (ifE (truM (callE 1 2 [(nmE 0), (app [.sl 1, .ex (vE (csE (.int 1)))] (two getV))] [])) (app [.sl 1, .ex (vE (csE (.int 2)))] (two getV)) (app [.sl 1, .ex (vE (csE (.int 3)))] (two getV))))])), (retE (callE 0 2 [(nmE 0), (nmE 1)] []))])
theorem body2 : F2.body = B2 := by kernel_rfl
/-- _law_number -/
def B3 : Caller → M Lk.Flow := (sqS [(tupS [(.nm 5), (.nm 6)] (ifE (truM (app [.sl 0, .ex (vE (lstE []))] (two neV))) (tupE [(app [.sl 0, .ex (vE (app [.sl 1, .ex (vE (app [.sl 0] lenV))] (two modV)))] (two getV)), (app [.sl 1, .ex (vE (app [.sl 0] lenV))] (two fdivV))]) (tupE [(csE (.int 12345)), (csE (.int 0))]))), (setE 2 false (ifE (truM (app [.sl 6, .ex (vE (csE (.int 60)))] (two ltV))) (app [.sl 5, .ex (vE (app [.ex (vE (csE (.int 10))), .ex (vE (csE (.int 18)))] (two powV)))] (two subV)) (csE (.int 0)))), (forE (app [.ex (vE (app [.ex (vE (app [.sl 6] intV)), .ex (vE (csE (.int 60)))] (two modV)))] rangeV) (.nm 3) (sqS [(setE 2 false (app [.sl 2, .ex (vE (csE (.int 1009)))] (two fdivV)))])), (ifS (truM (app [.sl 2, .ex (vE (csE (.int 0)))] (two gtV))) (sqS [(retE (app [.ex (vE (app [.sl 2] intV)), .ex (vE (csE (.int 1009)))] (two modV)))]) (sqS [])), (setE 4 false (app [.ex (vE (app [.ex (vE (app [.ex (vE (app [.ex (vE (app [.sl 5, .ex (vE (app [.ex (vE (csE (.int 977))), .sl 1] (two mulV)))] (two addV)))] intV)), .ex (vE (csE (.int 48271)))] (two mulV))), .ex (vE (app [.ex (vE (csE (.int 31))), .ex (vE (app [.sl 0] lenV))] (two mulV)))] (two addV))), .ex (vE (csE (.int 2147483647)))] (two modV))), (setE 4 false (app [.ex (vE (app [.ex (vE (app [.sl 4, .sl 4] (two mulV))), .ex (vE (app [.ex (vE (csE (.int 40503))), .sl 1] (two mulV)))] (two addV))), .ex (vE (csE (.int 2147483629)))] (two modV))), (retE (app [.ex (vE (app [.ex (vE (app [.ex (vE (app [.sl 4, .ex (vE (csE (.int 69621)))] (two mulV))), .ex (vE (app [.sl 4, .ex (vE (csE (.int 977)))] (two fdivV)))] (two addV))), .ex (vE (csE (.int 2147483587)))] (two modV)))] intV))])
theorem body3 : F3.body = B3 := by kernel_rfl
/-- _law_take -/
def B4 : Caller → M Lk.Flow := (sqS [(augS (nmE 0) (csE (.int 1)) (csE (.int 1))), (retE (app [.ex (vE (app [.ex (vE (callE 3 2 [(app [.sl 0, .ex (vE (csE (.int 0)))] (two getV)), (app [.ex (vE (app [.sl 0, .ex (vE (csE (.int 1)))] (two getV)))] intV)] []))] intV)), .sl 1] (two modV)))])
theorem body4 : F4.body = B4 := by kernel_rfl
/-- _law_pick -/
def B5 : Caller → M Lk.Flow := (sqS [(retE (app [.sl 1, .ex (vE (callE 4 2 [(nmE 0), (app [.sl 1] lenV)] []))] (two getV)))])
theorem body5 : F5.body = B5 := by kernel_rfl
/-- _law_term -/
def B6 : Caller → M Lk.Flow := (sqS [(setE 3 false (compM (itE (nmE 1)) [4, 5] (.tp [(.nm 4), (.nm 5)]) (truM (app [.sl 5, .sl 2] (two eqV))) (tupE [(csE (.str "column")), (nmE 4)]))), (ifS (truM (app [.sl 2, .ex (vE (csE (.str "number")))] (two eqV))) (sqS [(setE 3 false (app [.sl 3, .ex (vE (lstE [(tupE [(csE (.str "number")), (callE 5 2 [(nmE 0), (lstE [(csE (.int 0)), (csE (.int 1)), (csE (.int 2)), (csE (.int 40))])] [])])]))] (two addV)))]) (sqS [(setE 3 false (app [.sl 3, .ex (vE (lstE [(tupE [(csE (.str "text")), (callE 5 2 [(nmE 0), (lstE [(csE (.str "a")), (csE (.str "b"))])] [])])]))] (two addV)))])), (retE (callE 5 2 [(nmE 0), (ifE (truM (app [.ex (vE (callE 4 2 [(nmE 0), (csE (.int 9))] [])), .ex (vE (csE (.int 0)))] (two eqV))) (app [.sl 3, .ex (vE (lstE [(tupE [(csE (.str "none")), (nmE 2)])]))] (two addV)) (nmE 3))] []))])
theorem body6 : F6.body = B6 := by kernel_rfl
/-- _law_atom -/
def B7 : Caller → M Lk.Flow := (sqS [(setE 2 false (callE 5 2 [(nmE 0), (lstE [(csE (.str "number")), (csE (.str "number")), (csE (.str "text"))])] [])), (parE 4 5 [(callE 6 3 [(nmE 0), (nmE 1), (nmE 2)] []), (callE 6 3 [(nmE 0), (nmE 1), (nmE 2)] [])]), (setE 3 false (ifE (truM (app [.sl 2, .ex (vE (csE (.str "number")))] (two eqV))) (callE 5 2 [(nmE 0), (lstE [(csE (.str "is")), (csE (.str "less")), (csE (.str "missing"))])] []) (callE 5 2 [(nmE 0), (lstE [(csE (.str "is")), (csE (.str "missing"))])] []))), (retE (ifE (truM (app [.sl 3, .ex (vE (csE (.str "missing")))] (two eqV))) (tupE [(nmE 3), (nmE 4)]) (tupE [(nmE 3), (nmE 4), (nmE 5)])))])
theorem body7 : F7.body = B7 := by kernel_rfl
/-- _law_deep -/
def B8 : Caller → M Lk.Flow := (sqS [(setE 3 false (ifE (truM (app [.sl 2, .ex (vE (csE (.int 1)))] (two gtV))) (callE 4 2 [(nmE 0), (csE (.int 6))] []) (csE (.int 5)))), (ifS (truM (app [.sl 3, .ex (vE (csE (.int 0)))] (two eqV))) (sqS [(retE (tupE [(csE (.str "not")), (callE 8 3 [(nmE 0), (nmE 1), (app [.sl 2, .ex (vE (csE (.int 1)))] (two subV))] [])]))]) (sqS [])), (ifS (truM (app [.sl 3, .ex (vE (csE (.int 4)))] (two ltV))) (sqS [(retE (tupE [(callE 5 2 [(nmE 0), (lstE [(csE (.str "and")), (csE (.str "or"))])] []), (callE 8 3 [(nmE 0), (nmE 1), (app [.sl 2, .ex (vE (csE (.int 1)))] (two subV))] []), (callE 8 3 [(nmE 0), (nmE 1), (app [.sl 2, .ex (vE (csE (.int 1)))] (two subV))] [])]))]) (sqS [])), (retE (ifE (truM (app [.ex (vE (callE 4 2 [(nmE 0), (csE (.int 9))] [])), .ex (vE (csE (.int 0)))] (two eqV))) (tupE [(csE (.str "yes"))]) (callE 7 2 [(nmE 0), (nmE 1)] [])))])
theorem body8 : F8.body = B8 := by kernel_rfl
/-- _law_value -/
def B9 : Caller → M Lk.Flow := (sqS [(retE (ifE (truM (app [.ex (vE (app [.sl 1, .ex (vE (csE (.int 0)))] (two getV))), .ex (vE (csE (.str "column")))] (two eqV))) (app [.sl 0, .ex (vE (app [.sl 1, .ex (vE (csE (.int 1)))] (two getV)))] (two getV)) (ifE (truM (app [.ex (vE (app [.sl 1, .ex (vE (csE (.int 0)))] (two getV))), .ex (vE (csE (.str "none")))] (two eqV))) (csE .non) (app [.sl 1, .ex (vE (csE (.int 1)))] (two getV)))))])
theorem body9 : F9.body = B9 := by kernel_rfl
/-- _law_sure -/
def B10 : Caller → M Lk.Flow := (sqS [(ifS (truM (app [.ex (vE (app [.sl 1, .ex (vE (csE (.int 0)))] (two getV))), .ex (vE (csE (.str "yes")))] (two eqV))) (sqS [(fun _ => retSlot 2)]) (sqS [])), (ifS (truM (app [.ex (vE (app [.sl 1, .ex (vE (csE (.int 0)))] (two getV))), .ex (vE (csE (.str "not")))] (two eqV))) (sqS [(retE (callE 10 3 [(nmE 0), (app [.sl 1, .ex (vE (csE (.int 1)))] (two getV)), (notE (nmE 2))] []))]) (sqS [])), (ifS (truM (app [.ex (vE (app [.sl 1, .ex (vE (csE (.int 0)))] (two getV))), .ex (vE (tupE [(csE (.str "and")), (csE (.str "or"))]))] (two (inV false)))) (sqS [(setE 4 false (compM (itE (app [.sl 1, .ex (vE (csE (.int 1)))] (sliceA true false))) [6] (.nm 6) (fun _ => ret true) (callE 10 3 [(nmE 0), (nmE 6), (nmE 2)] []))), (retE (ifE (truM (app [.ex (vE (app [.ex (vE (app [.sl 1, .ex (vE (csE (.int 0)))] (two getV))), .ex (vE (csE (.str "and")))] (two eqV))), .sl 2] (two eqV))) (app [.sl 4] allV) (app [.sl 4] anyV)))]) (sqS [])), (setE 3 false (compM (itE (app [.sl 1, .ex (vE (csE (.int 1)))] (sliceA true false))) [5] (.nm 5) (fun _ => ret true) (callE 9 2 [(nmE 0), (nmE 5)] []))), (ifS (truM (app [.ex (vE (app [.sl 1, .ex (vE (csE (.int 0)))] (two getV))), .ex (vE (csE (.str "missing")))] (two eqV))) (sqS [(retE (app [.ex (vE (app [.ex (vE (app [.sl 3, .ex (vE (csE (.int 0)))] (two getV)))] (isNonV false))), .sl 2] (two eqV)))]) (sqS [])), (retE (fun c => boolM .And c [(app [.ex (vE (csE .non)), .sl 3] (two (inV true))), (app [.ex (vE (ifE (truM (app [.ex (vE (app [.sl 1, .ex (vE (csE (.int 0)))] (two getV))), .ex (vE (csE (.str "less")))] (two eqV))) (app [.ex (vE (app [.sl 3, .ex (vE (csE (.int 0)))] (two getV))), .ex (vE (app [.sl 3, .ex (vE (csE (.int 1)))] (two getV)))] (two ltV)) (app [.ex (vE (app [.sl 3, .ex (vE (csE (.int 0)))] (two getV))), .ex (vE (app [.sl 3, .ex (vE (csE (.int 1)))] (two getV)))] (two eqV)))), .sl 2] (two eqV))]))])
theorem body10 : F10.body = B10 := by kernel_rfl
/-- _law_choice -/
def B11 : Caller → M Lk.Flow := (sqS [(ifS (fun c => andT .Or c [(truM (app [.sl 2, .ex (vE (csE (.int 0)))] (two eqV))), (truM (app [.ex (vE (callE 4 2 [(nmE 0), (csE (.int 3))] [])), .ex (vE (csE (.int 0)))] (two eqV)))]) (sqS [(retE (callE 6 3 [(nmE 0), (nmE 1), (csE (.str "number"))] []))]) (sqS [])), (retE (tupE [(csE (.str "if")), (callE 8 3 [(nmE 0), (nmE 1), (csE (.int 2))] []), (callE 11 3 [(nmE 0), (nmE 1), (app [.sl 2, .ex (vE (csE (.int 1)))] (two subV))] []), (callE 11 3 [(nmE 0), (nmE 1), (app [.sl 2, .ex (vE (csE (.int 1)))] (two subV))] [])]))])
theorem body11 : F11.body = B11 := by kernel_rfl
/-- law -/
def B12 : Caller → M Lk.Flow := (sqS [(setE 1 true (lstE [(nmE 0), (csE (.int 0))])), (setE 2 false (lstE [(tupE [(csE (.str "k")), (csE (.str "text"))]), (tupE [(csE (.str "x")), (csE (.str "number"))]), (tupE [(csE (.str "y")), (csE (.str "number"))])])), (forE (app [.ex (vE (csE (.int 12)))] rangeV) (.nm 3) (sqS [(setE 4 false (dctE [((csE (.str "k")), (callE 5 2 [(nmE 1), (lstE [(csE .non), (csE (.str "a")), (csE (.str "b")), (csE (.str ""))])] [])), ((csE (.str "x")), (callE 5 2 [(nmE 1), (lstE [(csE .non), (csE (.int 0)), (csE (.int 1)), (csE (.int 40)), (app [.ex (vE (csE (.int 1)))] negV)])] [])), ((csE (.str "y")), (callE 5 2 [(nmE 1), (lstE [(csE .non), (csE (.int 0)), (csE (.int 2)), (app [.ex (vE (csE (.int 10))), .ex (vE (csE (.int 20)))] (two powV))])] []))])), (parE 10 11 [(app [.sl 4] dictV), (callE 8 3 [(nmE 1), (nmE 2), (csE (.int 6))] [])]), (setE 5 false (ifE (truM (callE 10 3 [(nmE 4), (nmE 11), (csE (.bl true))] [])) (csE (.bl true)) (ifE (truM (callE 10 3 [(nmE 4), (nmE 11), (csE (.bl false))] [])) (csE (.bl false)) (csE .non)))), (setE 6 false (callE 1 2 [(nmE 4), (nmE 11)] [])), (ifS (fun c => andT .Or c [(truM (app [.sl 6, .sl 5] (two neV))), (truM (app [.sl 4, .sl 10] (two neV)))]) (sqS [(retE (csE (.bl false)))]) (sqS [])), (setE 7 false (callE 11 3 [(nmE 1), (nmE 2), (csE (.int 6))] [])), (setE 8 false (nmE 7)), (forE (app [.ex (vE (csE (.int 7)))] rangeV) (.nm 9) (sqS [(ifS (truM (app [.ex (vE (app [.sl 8, .ex (vE (csE (.int 0)))] (two getV))), .ex (vE (csE (.str "if")))] (two eqV))) (sqS [(setE 8 false (ifE (truM (callE 10 3 [(nmE 4), (app [.sl 8, .ex (vE (csE (.int 1)))] (two getV)), (csE (.bl true))] [])) (app [.sl 8, .ex (vE (csE (.int 2)))] (two getV)) (app [.sl 8, .ex (vE (csE (.int 3)))] (two getV))))]) (sqS []))])), (ifS (truM (app [.ex (vE (callE 2 2 [(nmE 4), (nmE 7)] [])), .ex (vE (callE 9 2 [(nmE 4), (nmE 8)] []))] (two neV))) (sqS [(retE (csE (.bl false)))]) (sqS []))])), (retE (csE (.bl true)))])
theorem body12 : F12.body = B12 := by kernel_rfl
end Law05
end

section
set_option Elab.async false
set_option linter.all false
set_option maxRecDepth 100000
set_option maxHeartbeats 1000000
namespace Law05
open PySem Lk
theorem call_of {Fs : List Fn} {i : Nat} {F : Fn} (h : Fs[i]? = some F) (d : Nat) (vs : List Val) (S : Mem) : callN Fs (d + 1) i vs S = runFn F (callN Fs d) vs S := by
  show (match Fs[i]? with | some F => runFn F (callN Fs d) vs S | none => .bad) = _
  rw [h]
theorem value_of_col (d : Nat) (kvs : List (Val × Val)) (x : Str) (v : Val) (S : Mem) (h : dget kvs (.str x) = some v) : callN prog (d + 1) 0 [.dic kvs, .tup [.str "column", .str x]] S = .ok (.fz v) S := by
  rw [call_of (F := F0) rfl, runFn, body0]
  simp [B0, F0, N0, h, L2.atI, L2.ixN]
theorem plains_ints (n : Nat) : ∀ ns : List Int, Lk.plains n (ns.map .int) = true
  | [] => rfl
  | a :: ns => by simp [Lk.plains, Lk.plain, plains_ints n ns]
theorem atI_ints (ns : List Int) (i : Int) (h0 : 0 ≤ i) (h1 : i < ns.length) : ∃ c : Int, L2.atI (ns.map Val.int) i = some (.int c) := by
  have hlt : i.toNat < ns.length := by omega
  refine ⟨ns[i.toNat], ?_⟩
  simp [L2.atI, L2.ixN, h0, h1, hlt]
theorem rest_loop (c : Caller) (a b e f g : Slot) (S : Mem) : ∀ (xs : List Val) (r : Int) (s : Slot), ∃ r' s', forL (fun x => setS 3 (.pv x)) (sqS [(setE 2 false (app [.sl 2, .ex (vE (csE (.int 1009)))] (two fdivV)))] c) xs [a, b, .pv (.int r), s, e, f, g] S = .ok .nx [a, b, .pv (.int r'), s', e, f, g] S
  | [], r, s => ⟨r, s, rfl⟩
  | x :: xs, r, s => by
    obtain ⟨r', s', h⟩ := rest_loop c a b e f g S xs (r / 1009) (.pv x)
    refine ⟨r', s', ?_⟩
    rw [forL_cons]
    simp
    exact h
theorem cap_ok {n : Nat} (h : n ≤ 1000) : n ≤ cap := by unfold cap; omega
theorem mod_small (x m : Int) (hm : 0 < m) (h : m < 2 ^ 64) : small64 (x % m) = true := by
  have h1 := Int.emod_nonneg x (show m ≠ 0 by omega)
  have h2 := Int.emod_lt_of_pos x hm
  simp [small64]
  omega
theorem B3_eq : B3 = sqS [(tupS [(.nm 5), (.nm 6)] (ifE (truM (app [.sl 0, .ex (vE (lstE []))] (two neV))) (tupE [(app [.sl 0, .ex (vE (app [.sl 1, .ex (vE (app [.sl 0] lenV))] (two modV)))] (two getV)), (app [.sl 1, .ex (vE (app [.sl 0] lenV))] (two fdivV))]) (tupE [(csE (.int 12345)), (csE (.int 0))]))), (setE 2 false (ifE (truM (app [.sl 6, .ex (vE (csE (.int 60)))] (two ltV))) (app [.sl 5, .ex (vE (app [.ex (vE (csE (.int 10))), .ex (vE (csE (.int 18)))] (two powV)))] (two subV)) (csE (.int 0)))), (forE (app [.ex (vE (app [.ex (vE (app [.sl 6] intV)), .ex (vE (csE (.int 60)))] (two modV)))] rangeV) (.nm 3) (sqS [(setE 2 false (app [.sl 2, .ex (vE (csE (.int 1009)))] (two fdivV)))])), (ifS (truM (app [.sl 2, .ex (vE (csE (.int 0)))] (two gtV))) (sqS [(retE (app [.ex (vE (app [.sl 2] intV)), .ex (vE (csE (.int 1009)))] (two modV)))]) (sqS [])), (setE 4 false (app [.ex (vE (app [.ex (vE (app [.ex (vE (app [.ex (vE (app [.sl 5, .ex (vE (app [.ex (vE (csE (.int 977))), .sl 1] (two mulV)))] (two addV)))] intV)), .ex (vE (csE (.int 48271)))] (two mulV))), .ex (vE (app [.ex (vE (csE (.int 31))), .ex (vE (app [.sl 0] lenV))] (two mulV)))] (two addV))), .ex (vE (csE (.int 2147483647)))] (two modV))), (setE 4 false (app [.ex (vE (app [.ex (vE (app [.sl 4, .sl 4] (two mulV))), .ex (vE (app [.ex (vE (csE (.int 40503))), .sl 1] (two mulV)))] (two addV))), .ex (vE (csE (.int 2147483629)))] (two modV))), (retE (app [.ex (vE (app [.ex (vE (app [.ex (vE (app [.sl 4, .ex (vE (csE (.int 69621)))] (two mulV))), .ex (vE (app [.sl 4, .ex (vE (csE (.int 977)))] (two fdivV)))] (two addV))), .ex (vE (csE (.int 2147483587)))] (two modV)))] intV))] := rfl
theorem number_rest (c : Caller) (n0 : Slot) (ns : List Val) (idx : Int) (cell turn : Int) (a b e : Slot) (S : Mem) : ∃ (r : Int) (ρ' : Lk.Env), sqS [(setE 2 false (ifE (truM (app [.sl 6, .ex (vE (csE (.int 60)))] (two ltV))) (app [.sl 5, .ex (vE (app [.ex (vE (csE (.int 10))), .ex (vE (csE (.int 18)))] (two powV)))] (two subV)) (csE (.int 0)))), (forE (app [.ex (vE (app [.ex (vE (app [.sl 6] intV)), .ex (vE (csE (.int 60)))] (two modV)))] rangeV) (.nm 3) (sqS [(setE 2 false (app [.sl 2, .ex (vE (csE (.int 1009)))] (two fdivV)))])), (ifS (truM (app [.sl 2, .ex (vE (csE (.int 0)))] (two gtV))) (sqS [(retE (app [.ex (vE (app [.sl 2] intV)), .ex (vE (csE (.int 1009)))] (two modV)))]) (sqS [])), (setE 4 false (app [.ex (vE (app [.ex (vE (app [.ex (vE (app [.ex (vE (app [.sl 5, .ex (vE (app [.ex (vE (csE (.int 977))), .sl 1] (two mulV)))] (two addV)))] intV)), .ex (vE (csE (.int 48271)))] (two mulV))), .ex (vE (app [.ex (vE (csE (.int 31))), .ex (vE (app [.sl 0] lenV))] (two mulV)))] (two addV))), .ex (vE (csE (.int 2147483647)))] (two modV))), (setE 4 false (app [.ex (vE (app [.ex (vE (app [.sl 4, .sl 4] (two mulV))), .ex (vE (app [.ex (vE (csE (.int 40503))), .sl 1] (two mulV)))] (two addV))), .ex (vE (csE (.int 2147483629)))] (two modV))), (retE (app [.ex (vE (app [.ex (vE (app [.ex (vE (app [.sl 4, .ex (vE (csE (.int 69621)))] (two mulV))), .ex (vE (app [.sl 4, .ex (vE (csE (.int 977)))] (two fdivV)))] (two addV))), .ex (vE (csE (.int 2147483587)))] (two modV)))] intV))] c [.pv (.lst ns), .pv (.int idx), a, b, e, .pv (.int cell), .pv (.int turn)] S = .ok (.rt (.fz (.int r))) ρ' S := by
  have h60 : ∀ t : Int, small62 (t % 60) = true := fun t => by
    have h1 : 0 ≤ t % 60 := Int.emod_nonneg _ (by decide)
    have h2 : t % 60 < 60 := Int.emod_lt_of_pos _ (by decide)
    simp [small62]; omega
  have c60 : ∀ t : Int, (t % 60).toNat ≤ cap := fun t => by
    have h1 : 0 ≤ t % 60 := Int.emod_nonneg _ (by decide)
    have h2 : t % 60 < 60 := Int.emod_lt_of_pos _ (by decide)
    unfold cap; omega
  have m1 : ∀ x : Int, -18446744073709551616 < x % 2147483647 ∧ x % 2147483647 < 18446744073709551616 := fun x => by
    have h1 := Int.emod_nonneg x (show (2147483647 : Int) ≠ 0 by decide)
    have h2 := Int.emod_lt_of_pos x (show (0 : Int) < 2147483647 by decide)
    omega
  have m2 : ∀ x : Int, -18446744073709551616 < x % 2147483629 ∧ x % 2147483629 < 18446744073709551616 := fun x => by
    have h1 := Int.emod_nonneg x (show (2147483629 : Int) ≠ 0 by decide)
    have h2 := Int.emod_lt_of_pos x (show (0 : Int) < 2147483629 by decide)
    omega
  have e1 : ∃ r0 : Int, (setE 2 false (ifE (truM (app [.sl 6, .ex (vE (csE (.int 60)))] (two ltV))) (app [.sl 5, .ex (vE (app [.ex (vE (csE (.int 10))), .ex (vE (csE (.int 18)))] (two powV)))] (two subV)) (csE (.int 0)))) c [.pv (.lst ns), .pv (.int idx), a, b, e, .pv (.int cell), .pv (.int turn)] S = .ok .nx [.pv (.lst ns), .pv (.int idx), .pv (.int r0), b, e, .pv (.int cell), .pv (.int turn)] S := by
    by_cases ht : turn < 60
    · exact ⟨cell - 10 ^ 18, by simp [ht]⟩
    · exact ⟨0, by simp [ht]⟩
  obtain ⟨r0, e1⟩ := e1
  rw [sqS_cons, e1, seqK_nx, sqS_cons]
  obtain ⟨r1, s1, e2⟩ := rest_loop c (.pv (.lst ns)) (.pv (.int idx)) e (.pv (.int cell)) (.pv (.int turn)) S (rangeL 0 (turn % 60).toNat) r0 b
  simp [h60, c60, e2]
  by_cases hr : 0 < r1
  · simp [hr]
  · simp [hr, m1, m2]
theorem number_ok (d : Nat) (ns : List Int) (idx : Int) (S : Mem) (h : ns.length ≤ 63) : ∃ r : Int, callN prog (d + 1) 3 [.lst (ns.map .int), .int idx] S = .ok (.fz (.int r)) S := by
  rw [call_of (F := F3) rfl, runFn, body3, B3_eq]
  have c2 : (2 : Nat) ≤ cap := by unfold cap; omega
  have c0 : (0 : Nat) ≤ cap := Nat.zero_le _
  have e0 : ∃ cell turn : Int, ∀ c, (tupS [(.nm 5), (.nm 6)] (ifE (truM (app [.sl 0, .ex (vE (lstE []))] (two neV))) (tupE [(app [.sl 0, .ex (vE (app [.sl 1, .ex (vE (app [.sl 0] lenV))] (two modV)))] (two getV)), (app [.sl 1, .ex (vE (app [.sl 0] lenV))] (two fdivV))]) (tupE [(csE (.int 12345)), (csE (.int 0))]))) c (startE N3 [Val.lst (ns.map .int), .int idx]) S = .ok .nx [.pv (Val.lst (ns.map .int)), .pv (.int idx), .unb, .unb, .unb, .pv (.int cell), .pv (.int turn)] S := by
    cases ns with
    | nil => exact ⟨12345, 0, fun c => by simp [N3, c0, c2]⟩
    | cons n ns =>
      have hp : Lk.plains 59 (List.map Val.int ns) = true := plains_ints 59 ns
      have hlen : (0 : Int) < (ns.length : Int) + 1 := by omega
      have hlen2 : (ns.length : Int) + 1 < 1073741824 := by simp at h; omega
      have hc : (idx % ((ns.length : Int) + 1)) < ((n :: ns).length : Int) := by
        have := Int.emod_lt_of_pos idx hlen
        simpa using this
      obtain ⟨cell, hcell⟩ := atI_ints (n :: ns) (idx % ((ns.length : Int) + 1)) (Int.emod_nonneg _ (by omega)) hc
      simp only [List.map_cons] at hcell
      exact ⟨cell, idx / ((ns.length : Int) + 1), fun c => by simp [N3, c0, c2, hp, hcell, hlen, hlen2]⟩
  obtain ⟨cell, turn, e0⟩ := e0
  obtain ⟨r, ρ', e1⟩ := number_rest (callN prog d) .unb (ns.map .int) idx cell turn .unb .unb .unb S
  refine ⟨r, ?_⟩
  have hl : ([Val.lst (ns.map .int), Val.int idx] : List Val).length = F3.np := rfl
  have hN : F3.N = N3 := rfl
  rw [if_pos hl, sqS_cons, hN, e0, seqK_nx, e1]
/-- the reader's state -/
abbrev St (ns : List Int) (n : Int) : Mem := [.lst [.lst (ns.map .int), .int n]]
theorem take_ok (d : Nat) (ns : List Int) (n many : Int) (h : ns.length ≤ 63) (hm : 0 < many) : ∃ r : Int, 0 ≤ r ∧ r < many ∧ callN prog (d + 2) 4 [.loc 0, .int many] (St ns n) = .ok (.fz (.int r)) (St ns (n + 1)) := by
  obtain ⟨r, hr⟩ := number_ok d ns (n + 1) (St ns (n + 1)) h
  refine ⟨r % many, Int.emod_nonneg _ (by omega), Int.emod_lt_of_pos _ hm, ?_⟩
  rw [call_of (F := F4) rfl, runFn, body4]
  have hr' : callN prog (d + 1) 3 [.lst (ns.map .int), .int (n + 1)] [.lst [.lst (ns.map .int), .int (n + 1)]] = .ok (.fz (.int r)) [.lst [.lst (ns.map .int), .int (n + 1)]] := hr
  simp [B4, F4, N4, augS, getAtM, setAtM, addI, nextM, Lk.view, L2.atI, L2.ixN, hr', hm]
theorem pick_ok (d : Nat) (ns : List Int) (n : Int) (vs : List Val) (h : ns.length ≤ 63) (hv : vs ≠ []) : ∃ v n', v ∈ vs ∧ callN prog (d + 3) 5 [.loc 0, .lst vs] (St ns n) = .ok (.fz v) (St ns n') := by
  have hl : (0 : Int) < vs.length := by
    cases vs with
    | nil => exact absurd rfl hv
    | cons a r => simp
  obtain ⟨r, h0, h1, h2⟩ := take_ok d ns n vs.length h hl
  have hlt : r.toNat < vs.length := by omega
  refine ⟨vs[r.toNat], n + 1, List.getElem_mem hlt, ?_⟩
  rw [call_of (F := F5) rfl, runFn, body5]
  have hat : L2.atI vs r = some vs[r.toNat] := by simp [L2.atI, L2.ixN, h0, h1, hlt]
  simp [B5, F5, N5, Lk.view, h2, hat]
inductive Term where
  | col (x : Str) | num (i : Int) | txt (s : Str) | nul (k : Str)
def encT : Term → Val
  | .col x => .tup [.str "column", .str x]
  | .num i => .tup [.str "number", .int i]
  | .txt s => .tup [.str "text", .str s]
  | .nul k => .tup [.str "none", .str k]
def NumT : Term → Prop
  | .col x => x = "x" ∨ x = "y"
  | .txt _ => False
  | _ => True
def TxtT : Term → Prop
  | .col x => x = "k"
  | .num _ => False
  | _ => True
abbrev cols : Val := .lst [.tup [.str "k", .str "text"], .tup [.str "x", .str "number"], .tup [.str "y", .str "number"]]
theorem term_num (d : Nat) (ns : List Int) (n : Int) (h : ns.length ≤ 63) : ∃ t n', NumT t ∧ callN prog (d + 4) 6 [.loc 0, cols, .str "number"] (St ns n) = .ok (.fz (encT t)) (St ns n') := by
  obtain ⟨v1, n1, m1, e1⟩ := pick_ok d ns n [.int 0, .int 1, .int 2, .int 40] h (by simp)
  obtain ⟨r, r0, r9, e2⟩ := take_ok (d + 1) ns n1 9 h (by decide)
  have e2' : callN prog (d + 3) 4 [.loc 0, .int 9] (St ns n1) = .ok (.fz (.int r)) (St ns (n1 + 1)) := e2
  obtain ⟨v3, n3, m3, e3⟩ := pick_ok d ns (n1 + 1) [.tup [.str "column", .str "x"], .tup [.str "column", .str "y"], .tup [.str "number", v1]] h (by simp)
  obtain ⟨v4, n4, m4, e4⟩ := pick_ok d ns (n1 + 1) [.tup [.str "column", .str "x"], .tup [.str "column", .str "y"], .tup [.str "number", v1], .tup [.str "none", .str "number"]] h (by simp)
  have c4 : (4 : Nat) ≤ cap := by unfold cap; omega
  have c2 : (2 : Nat) ≤ cap := by unfold cap; omega
  have c1 : (1 : Nat) ≤ cap := by unfold cap; omega
  have c3 : (3 : Nat) ≤ cap := by unfold cap; omega
  have ht : ∀ v, v ∈ ([.tup [.str "column", .str "x"], .tup [.str "column", .str "y"], .tup [.str "number", v1], .tup [.str "none", .str "number"]] : List Val) → ∃ t, NumT t ∧ encT t = v := by
    intro v hv
    have hi : ∃ i : Int, v1 = .int i := by
      simp only [List.mem_cons, List.not_mem_nil, or_false] at m1
      rcases m1 with rfl | rfl | rfl | rfl <;> exact ⟨_, rfl⟩
    obtain ⟨i, rfl⟩ := hi
    simp only [List.mem_cons, List.not_mem_nil, or_false] at hv
    rcases hv with rfl | rfl | rfl | rfl
    · exact ⟨.col "x", .inl rfl, rfl⟩
    · exact ⟨.col "y", .inr rfl, rfl⟩
    · exact ⟨.num i, trivial, rfl⟩
    · exact ⟨.nul "number", trivial, rfl⟩
  by_cases hr : r = 0
  · obtain ⟨t, t1, t2⟩ := ht v4 m4
    refine ⟨t, n4, t1, ?_⟩
    rw [call_of (F := F6) rfl, runFn, body6, t2]
    simp [B6, F6, N6, c1, c2, c3, c4, e1, e2', e4, hr, fitL, Lk.view]
  · obtain ⟨t, t1, t2⟩ := ht v3 (by simp only [List.mem_cons, List.not_mem_nil, or_false] at m3 ⊢; rcases m3 with h | h | h <;> simp [h])
    refine ⟨t, n3, t1, ?_⟩
    rw [call_of (F := F6) rfl, runFn, body6, t2]
    simp [B6, F6, N6, c1, c2, c3, c4, e1, e2', e3, hr, fitL, Lk.view]
theorem term_txt (d : Nat) (ns : List Int) (n : Int) (h : ns.length ≤ 63) : ∃ t n', TxtT t ∧ callN prog (d + 4) 6 [.loc 0, cols, .str "text"] (St ns n) = .ok (.fz (encT t)) (St ns n') := by
  obtain ⟨v1, n1, m1, e1⟩ := pick_ok d ns n [.str "a", .str "b"] h (by simp)
  obtain ⟨r, r0, r9, e2⟩ := take_ok (d + 1) ns n1 9 h (by decide)
  have e2' : callN prog (d + 3) 4 [.loc 0, .int 9] (St ns n1) = .ok (.fz (.int r)) (St ns (n1 + 1)) := e2
  obtain ⟨v3, n3, m3, e3⟩ := pick_ok d ns (n1 + 1) [.tup [.str "column", .str "k"], .tup [.str "text", v1]] h (by simp)
  obtain ⟨v4, n4, m4, e4⟩ := pick_ok d ns (n1 + 1) [.tup [.str "column", .str "k"], .tup [.str "text", v1], .tup [.str "none", .str "text"]] h (by simp)
  have c4 : (4 : Nat) ≤ cap := by unfold cap; omega
  have c2 : (2 : Nat) ≤ cap := by unfold cap; omega
  have c1 : (1 : Nat) ≤ cap := by unfold cap; omega
  have c3 : (3 : Nat) ≤ cap := by unfold cap; omega
  have ht : ∀ v, v ∈ ([.tup [.str "column", .str "k"], .tup [.str "text", v1], .tup [.str "none", .str "text"]] : List Val) → ∃ t, TxtT t ∧ encT t = v := by
    intro v hv
    have hi : ∃ i : Str, v1 = .str i := by
      simp only [List.mem_cons, List.not_mem_nil, or_false] at m1
      rcases m1 with rfl | rfl <;> exact ⟨_, rfl⟩
    obtain ⟨i, rfl⟩ := hi
    simp only [List.mem_cons, List.not_mem_nil, or_false] at hv
    rcases hv with rfl | rfl | rfl
    · exact ⟨.col "k", rfl, rfl⟩
    · exact ⟨.txt i, trivial, rfl⟩
    · exact ⟨.nul "text", trivial, rfl⟩
  by_cases hr : r = 0
  · obtain ⟨t, t1, t2⟩ := ht v4 m4
    refine ⟨t, n4, t1, ?_⟩
    rw [call_of (F := F6) rfl, runFn, body6, t2]
    simp [B6, F6, N6, c1, c2, c3, c4, e1, e2', e4, hr, fitL, Lk.view]
  · obtain ⟨t, t1, t2⟩ := ht v3 (by simp only [List.mem_cons, List.not_mem_nil, or_false] at m3 ⊢; rcases m3 with h | h <;> simp [h])
    refine ⟨t, n3, t1, ?_⟩
    rw [call_of (F := F6) rfl, runFn, body6, t2]
    simp [B6, F6, N6, c1, c2, c3, c4, e1, e2', e3, hr, fitL, Lk.view]
end Law05
end

section
set_option Elab.async false
set_option linter.all false
set_option maxRecDepth 100000
set_option maxHeartbeats 1000000
namespace Law05
open PySem Lk
inductive Told where
  | yes | missing (t : Term) | is (t u : Term) | less (t u : Term) | not (a : Told) | and (a b : Told) | or (a b : Told)
def encB : Told → Val
  | .yes => .tup [.str "yes"]
  | .missing t => .tup [.str "missing", encT t]
  | .is t u => .tup [.str "is", encT t, encT u]
  | .less t u => .tup [.str "less", encT t, encT u]
  | .not a => .tup [.str "not", encB a]
  | .and a b => .tup [.str "and", encB a, encB b]
  | .or a b => .tup [.str "or", encB a, encB b]
def GoodB : Told → Prop
  | .yes => True
  | .missing t => NumT t ∨ TxtT t
  | .is t u => (NumT t ∧ NumT u) ∨ (TxtT t ∧ TxtT u)
  | .less t u => NumT t ∧ NumT u
  | .not a => GoodB a
  | .and a b => GoodB a ∧ GoodB b
  | .or a b => GoodB a ∧ GoodB b
def dep : Told → Nat
  | .not a => dep a + 1
  | .and a b => max (dep a) (dep b) + 1
  | .or a b => max (dep a) (dep b) + 1
  | _ => 0
theorem atom_ok (d : Nat) (ns : List Int) (n : Int) (h : ns.length ≤ 63) : ∃ b n', GoodB b ∧ dep b = 0 ∧ callN prog (d + 5) 7 [.loc 0, cols] (St ns n) = .ok (.fz (encB b)) (St ns n') := by
  obtain ⟨v1, n1, m1, e1⟩ := pick_ok (d + 1) ns n [.str "number", .str "number", .str "text"] h (by simp)
  have e1' : callN prog (d + 4) 5 [.loc 0, .lst [.str "number", .str "number", .str "text"]] (St ns n) = .ok (.fz v1) (St ns n1) := e1
  have c4 : (4 : Nat) ≤ cap := by unfold cap; omega
  have c2 : (2 : Nat) ≤ cap := by unfold cap; omega
  have c1 : (1 : Nat) ≤ cap := by unfold cap; omega
  have c3 : (3 : Nat) ≤ cap := by unfold cap; omega
  have hv : v1 = .str "number" ∨ v1 = .str "text" := by
    simp only [List.mem_cons, List.not_mem_nil, or_false] at m1
    rcases m1 with h | h | h
    · exact .inl h
    · exact .inl h
    · exact .inr h
  rcases hv with rfl | rfl
  · obtain ⟨t, n2, t1, e2⟩ := term_num d ns n1 h
    obtain ⟨u, n3, u1, e3⟩ := term_num d ns n2 h
    obtain ⟨w, n4, m4, e4⟩ := pick_ok (d + 1) ns n3 [.str "is", .str "less", .str "missing"] h (by simp)
    have e4' : callN prog (d + 4) 5 [.loc 0, .lst [.str "is", .str "less", .str "missing"]] (St ns n3) = .ok (.fz w) (St ns n4) := e4
    simp only [List.mem_cons, List.not_mem_nil, or_false] at m4
    rcases m4 with rfl | rfl | rfl
    · refine ⟨.is t u, n4, .inl ⟨t1, u1⟩, rfl, ?_⟩
      rw [call_of (F := F7) rfl, runFn, body7]
      simp [B7, F7, N7, encB, c1, c2, c3, c4, e1', e2, e3, e4', Lk.view]
    · refine ⟨.less t u, n4, ⟨t1, u1⟩, rfl, ?_⟩
      rw [call_of (F := F7) rfl, runFn, body7]
      simp [B7, F7, N7, encB, c1, c2, c3, c4, e1', e2, e3, e4', Lk.view]
    · refine ⟨.missing t, n4, .inl t1, rfl, ?_⟩
      rw [call_of (F := F7) rfl, runFn, body7]
      simp [B7, F7, N7, encB, c1, c2, c3, c4, e1', e2, e3, e4', Lk.view]
  · obtain ⟨t, n2, t1, e2⟩ := term_txt d ns n1 h
    obtain ⟨u, n3, u1, e3⟩ := term_txt d ns n2 h
    obtain ⟨w, n4, m4, e4⟩ := pick_ok (d + 1) ns n3 [.str "is", .str "missing"] h (by simp)
    have e4' : callN prog (d + 4) 5 [.loc 0, .lst [.str "is", .str "missing"]] (St ns n3) = .ok (.fz w) (St ns n4) := e4
    simp only [List.mem_cons, List.not_mem_nil, or_false] at m4
    rcases m4 with rfl | rfl
    · refine ⟨.is t u, n4, .inr ⟨t1, u1⟩, rfl, ?_⟩
      rw [call_of (F := F7) rfl, runFn, body7]
      simp [B7, F7, N7, encB, c1, c2, c3, c4, e1', e2, e3, e4', Lk.view]
    · refine ⟨.missing t, n4, .inr t1, rfl, ?_⟩
      rw [call_of (F := F7) rfl, runFn, body7]
      simp [B7, F7, N7, encB, c1, c2, c3, c4, e1', e2, e3, e4', Lk.view]
theorem last_ok (d : Nat) (ns : List Int) (h : ns.length ≤ 63) (n : Int) (a b : Lk.Slot) : ∃ t n', GoodB t ∧ dep t = 0 ∧ (retE (ifE (truM (app [.ex (vE (callE 4 2 [(nmE 0), (csE (.int 9))] [])), .ex (vE (csE (.int 0)))] (two eqV))) (tupE [(csE (.str "yes"))]) (callE 7 2 [(nmE 0), (nmE 1)] []))) (callN prog (d + 5)) [.pv (.loc 0), .pv cols, a, b] (St ns n) = .ok (.rt (.fz (encB t))) [.pv (.loc 0), .pv cols, a, b] (St ns n') := by
  obtain ⟨r, r0, r9, e1⟩ := take_ok (d + 3) ns n 9 h (by decide)
  have e1' : callN prog (d + 5) 4 [.loc 0, .int 9] (St ns n) = .ok (.fz (.int r)) (St ns (n + 1)) := e1
  have c1 : (1 : Nat) ≤ cap := by unfold cap; omega
  by_cases hr : r = 0
  · refine ⟨.yes, n + 1, trivial, rfl, ?_⟩
    simp [encB, c1, e1', hr]
  · obtain ⟨b, n2, g, z, e2⟩ := atom_ok d ns (n + 1) h
    exact ⟨b, n2, g, z, by simp [e1', e2, hr]⟩
theorem B8_eq : B8 = sqS [(setE 3 false (ifE (truM (app [.sl 2, .ex (vE (csE (.int 1)))] (two gtV))) (callE 4 2 [(nmE 0), (csE (.int 6))] []) (csE (.int 5)))), (ifS (truM (app [.sl 3, .ex (vE (csE (.int 0)))] (two eqV))) (sqS [(retE (tupE [(csE (.str "not")), (callE 8 3 [(nmE 0), (nmE 1), (app [.sl 2, .ex (vE (csE (.int 1)))] (two subV))] [])]))]) (sqS [])), (ifS (truM (app [.sl 3, .ex (vE (csE (.int 4)))] (two ltV))) (sqS [(retE (tupE [(callE 5 2 [(nmE 0), (lstE [(csE (.str "and")), (csE (.str "or"))])] []), (callE 8 3 [(nmE 0), (nmE 1), (app [.sl 2, .ex (vE (csE (.int 1)))] (two subV))] []), (callE 8 3 [(nmE 0), (nmE 1), (app [.sl 2, .ex (vE (csE (.int 1)))] (two subV))] [])]))]) (sqS [])), (retE (ifE (truM (app [.ex (vE (callE 4 2 [(nmE 0), (csE (.int 9))] [])), .ex (vE (csE (.int 0)))] (two eqV))) (tupE [(csE (.str "yes"))]) (callE 7 2 [(nmE 0), (nmE 1)] [])))] := rfl
theorem call_rt {Fs : List Fn} {i : Nat} {F : Fn} {d : Nat} {vs : List Val} {S S' : Mem} {r : RVal} (h : Fs[i]? = some F) (hl : vs.length = F.np) (e : ∃ ρ', F.body (callN Fs d) (startE F.N vs) S = .ok (.rt r) ρ' S') : callN Fs (d + 1) i vs S = .ok r S' := by
  obtain ⟨ρ', e⟩ := e
  rw [call_of h, runFn, if_pos hl, e]
theorem deep_leaf (c : Caller) (L : Caller → M Lk.Flow) (S : Mem) (k : Int) (hk : k ≤ 1) : sqS [(setE 3 false (ifE (truM (app [.sl 2, .ex (vE (csE (.int 1)))] (two gtV))) (callE 4 2 [(nmE 0), (csE (.int 6))] []) (csE (.int 5)))), (ifS (truM (app [.sl 3, .ex (vE (csE (.int 0)))] (two eqV))) (sqS [(retE (tupE [(csE (.str "not")), (callE 8 3 [(nmE 0), (nmE 1), (app [.sl 2, .ex (vE (csE (.int 1)))] (two subV))] [])]))]) (sqS [])), (ifS (truM (app [.sl 3, .ex (vE (csE (.int 4)))] (two ltV))) (sqS [(retE (tupE [(callE 5 2 [(nmE 0), (lstE [(csE (.str "and")), (csE (.str "or"))])] []), (callE 8 3 [(nmE 0), (nmE 1), (app [.sl 2, .ex (vE (csE (.int 1)))] (two subV))] []), (callE 8 3 [(nmE 0), (nmE 1), (app [.sl 2, .ex (vE (csE (.int 1)))] (two subV))] [])]))]) (sqS [])), L] c [.pv (.loc 0), .pv cols, .pv (.int k), .unb] S = seqK (L c [.pv (.loc 0), .pv cols, .pv (.int k), .pv (.int 5)] S) (sqS []) c := by
  have h1 : ¬ (1 : Int) < k := by omega
  simp [h1]
theorem deep_ok (ns : List Int) (h : ns.length ≤ 63) : ∀ (k d : Nat) (n kk : Int), kk = k → ∃ b n', GoodB b ∧ dep b ≤ k ∧ callN prog (d + k + 6) 8 [.loc 0, cols, .int kk] (St ns n) = .ok (.fz (encB b)) (St ns n')
  | 0, d, n, kk, hk => by
    obtain ⟨t, n', g, z, e⟩ := last_ok d ns h n (.pv (.int kk)) (.pv (.int 5))
    refine ⟨t, n', g, by omega, call_rt (F := F8) rfl rfl ⟨[.pv (.loc 0), .pv cols, .pv (.int kk), .pv (.int 5)], ?_⟩⟩
    rw [body8, B8_eq]
    exact (deep_leaf _ _ _ kk (by omega)).trans (by rw [show d + 0 + 5 = d + 5 from rfl, e, seqK_rt])
  | 1, d, n, kk, hk => by
    obtain ⟨t, n', g, z, e⟩ := last_ok (d + 1) ns h n (.pv (.int kk)) (.pv (.int 5))
    refine ⟨t, n', g, by omega, call_rt (F := F8) rfl rfl ⟨[.pv (.loc 0), .pv cols, .pv (.int kk), .pv (.int 5)], ?_⟩⟩
    rw [body8, B8_eq]
    exact (deep_leaf _ _ _ kk (by omega)).trans (by rw [e, seqK_rt])
  | k + 2, d, n, kk, hk => by
    have c2 : (2 : Nat) ≤ cap := by unfold cap; omega
    have c3 : (3 : Nat) ≤ cap := by unfold cap; omega
    obtain ⟨r, r0, r9, e1⟩ := take_ok (d + k + 5) ns n 6 h (by decide)
    have e1' : callN prog (d + k + 7) 4 [.loc 0, .int 6] [.lst [.lst (ns.map .int), .int n]] = .ok (.fz (.int r)) [.lst [.lst (ns.map .int), .int (n + 1)]] := e1
    have h1 : 1 < kk := by omega
    have hsub : kk - 1 = ((k + 1 : Nat) : Int) := by omega
    have s0 : ∀ (L : List (Caller → M Lk.Flow)), sqS ((setE 3 false (ifE (truM (app [.sl 2, .ex (vE (csE (.int 1)))] (two gtV))) (callE 4 2 [(nmE 0), (csE (.int 6))] []) (csE (.int 5)))) :: L) (callN prog (d + k + 7)) [.pv (.loc 0), .pv cols, .pv (.int kk), .unb] (St ns n) = sqS L (callN prog (d + k + 7)) [.pv (.loc 0), .pv cols, .pv (.int kk), .pv (.int r)] (St ns (n + 1)) := by
      intro L
      rw [sqS_cons]
      have : (setE 3 false (ifE (truM (app [.sl 2, .ex (vE (csE (.int 1)))] (two gtV))) (callE 4 2 [(nmE 0), (csE (.int 6))] []) (csE (.int 5)))) (callN prog (d + k + 7)) [.pv (.loc 0), .pv cols, .pv (.int kk), .unb] (St ns n) = .ok .nx [.pv (.loc 0), .pv cols, .pv (.int kk), .pv (.int r)] (St ns (n + 1)) := by
        simp [h1, e1']
      rw [this, seqK_nx]
    by_cases hr : r = 0
    · obtain ⟨b, n2, g, z, e2⟩ := deep_ok ns h (k + 1) d (n + 1) (kk - 1) hsub
      have e2' : callN prog (d + k + 7) 8 [.loc 0, cols, .int (kk - 1)] [.lst [.lst (ns.map .int), .int (n + 1)]] = .ok (.fz (encB b)) [.lst [.lst (ns.map .int), .int n2]] := e2
      refine ⟨.not b, n2, g, by simp only [dep]; omega, call_rt (F := F8) rfl rfl ⟨[.pv (.loc 0), .pv cols, .pv (.int kk), .pv (.int r)], ?_⟩⟩
      rw [body8, B8_eq]
      refine (s0 _).trans ?_
      simp [c2, e2', encB, hr]
    · by_cases hr4 : r < 4
      · obtain ⟨w, n1, m1, ew⟩ := pick_ok (d + k + 4) ns (n + 1) [.str "and", .str "or"] h (by simp)
        have ew' : callN prog (d + k + 7) 5 [.loc 0, .lst [.str "and", .str "or"]] [.lst [.lst (ns.map .int), .int (n + 1)]] = .ok (.fz w) [.lst [.lst (ns.map .int), .int n1]] := ew
        obtain ⟨a, n2, ga, za, e2⟩ := deep_ok ns h (k + 1) d n1 (kk - 1) hsub
        have e2' : callN prog (d + k + 7) 8 [.loc 0, cols, .int (kk - 1)] [.lst [.lst (ns.map .int), .int n1]] = .ok (.fz (encB a)) [.lst [.lst (ns.map .int), .int n2]] := e2
        obtain ⟨b, n3, gb, zb, e3⟩ := deep_ok ns h (k + 1) d n2 (kk - 1) hsub
        have e3' : callN prog (d + k + 7) 8 [.loc 0, cols, .int (kk - 1)] [.lst [.lst (ns.map .int), .int n2]] = .ok (.fz (encB b)) [.lst [.lst (ns.map .int), .int n3]] := e3
        simp only [List.mem_cons, List.not_mem_nil, or_false] at m1
        rcases m1 with rfl | rfl
        · refine ⟨.and a b, n3, ⟨ga, gb⟩, by simp only [dep]; omega, call_rt (F := F8) rfl rfl ⟨[.pv (.loc 0), .pv cols, .pv (.int kk), .pv (.int r)], ?_⟩⟩
          rw [body8, B8_eq]
          refine (s0 _).trans ?_
          simp [c2, c3, ew', e2', e3', encB, hr, hr4]
        · refine ⟨.or a b, n3, ⟨ga, gb⟩, by simp only [dep]; omega, call_rt (F := F8) rfl rfl ⟨[.pv (.loc 0), .pv cols, .pv (.int kk), .pv (.int r)], ?_⟩⟩
          rw [body8, B8_eq]
          refine (s0 _).trans ?_
          simp [c2, c3, ew', e2', e3', encB, hr, hr4]
      · obtain ⟨t, n', g, z, e⟩ := last_ok (d + k + 2) ns h (n + 1) (.pv (.int kk)) (.pv (.int r))
        refine ⟨t, n', g, by omega, call_rt (F := F8) rfl rfl ⟨[.pv (.loc 0), .pv cols, .pv (.int kk), .pv (.int r)], ?_⟩⟩
        rw [body8, B8_eq]
        refine (s0 _).trans ?_
        have e' := e
        generalize (retE (ifE (truM (app [.ex (vE (callE 4 2 [(nmE 0), (csE (.int 9))] [])), .ex (vE (csE (.int 0)))] (two eqV))) (tupE [csE (.str "yes")]) (callE 7 2 [(nmE 0), (nmE 1)] [])) : Caller → M Lk.Flow) = L at e' ⊢
        have e'' : L (callN prog (d + k + 7)) [.pv (.loc 0), .pv cols, .pv (.int kk), .pv (.int r)] [.lst [.lst (ns.map .int), .int (n + 1)]] = .ok (.rt (.fz (encB t))) [.pv (.loc 0), .pv cols, .pv (.int kk), .pv (.int r)] [.lst [.lst (ns.map .int), .int n']] := e'
        simp [hr, hr4, e'']
end Law05
end

section
set_option Elab.async false
set_option linter.all false
set_option maxRecDepth 100000
set_option maxHeartbeats 1000000
namespace Law05
open PySem Lk
inductive Cho where
  | leaf (t : Term) | ite (b : Told) (x y : Cho)
def encC : Cho → Val
  | .leaf t => encT t
  | .ite b x y => .tup [.str "if", encB b, encC x, encC y]
def GoodC : Cho → Prop
  | .leaf t => NumT t
  | .ite b x y => GoodB b ∧ dep b ≤ 2 ∧ GoodC x ∧ GoodC y
def depC : Cho → Nat
  | .leaf _ => 0
  | .ite _ x y => max (depC x) (depC y) + 1
theorem choice_ok (ns : List Int) (h : ns.length ≤ 63) : ∀ (k d : Nat) (n kk : Int), kk = k → ∃ c n', GoodC c ∧ depC c ≤ k ∧ callN prog (d + k + 9) 11 [.loc 0, cols, .int kk] (St ns n) = .ok (.fz (encC c)) (St ns n')
  | 0, d, n, kk, hk => by
    obtain ⟨t, n', g, e⟩ := term_num (d + 4) ns n h
    refine ⟨.leaf t, n', g, Nat.le_refl _, ?_⟩
    have e' : callN prog (d + 8) 6 [.loc 0, cols, .str "number"] [.lst [.lst (ns.map .int), .int n]] = .ok (.fz (encT t)) [.lst [.lst (ns.map .int), .int n']] := e
    subst hk
    rw [call_of (F := F11) rfl, runFn, body11]
    simp [B11, F11, N11, andT, encC, e']
  | k + 1, d, n, kk, hk => by
    have c4 : (4 : Nat) ≤ cap := by unfold cap; omega
    have h0 : kk ≠ 0 := by omega
    have hsub : kk - 1 = (k : Int) := by omega
    obtain ⟨r, r0, r9, e1⟩ := take_ok (d + k + 7) ns n 3 h (by decide)
    have e1' : callN prog (d + k + 9) 4 [.loc 0, .int 3] [.lst [.lst (ns.map .int), .int n]] = .ok (.fz (.int r)) [.lst [.lst (ns.map .int), .int (n + 1)]] := e1
    by_cases hr : r = 0
    · obtain ⟨t, n', g, e⟩ := term_num (d + k + 5) ns (n + 1) h
      refine ⟨.leaf t, n', g, Nat.zero_le _, ?_⟩
      have e' : callN prog (d + k + 9) 6 [.loc 0, cols, .str "number"] [.lst [.lst (ns.map .int), .int (n + 1)]] = .ok (.fz (encT t)) [.lst [.lst (ns.map .int), .int n']] := e
      refine call_rt (F := F11) rfl rfl ⟨[.pv (.loc 0), .pv cols, .pv (.int kk)], ?_⟩
      rw [body11]
      show B11 (callN prog (d + k + 9)) [.pv (.loc 0), .pv cols, .pv (.int kk)] _ = _
      simp [B11, andT, encC, e', e1', hr, h0]
    · obtain ⟨b, n1, g1, z1, e2⟩ := deep_ok ns h 2 (d + k + 1) (n + 1) 2 rfl
      have e2' : callN prog (d + k + 9) 8 [.loc 0, cols, .int 2] [.lst [.lst (ns.map .int), .int (n + 1)]] = .ok (.fz (encB b)) [.lst [.lst (ns.map .int), .int n1]] := e2
      obtain ⟨x, n2, g2, z2, e3⟩ := choice_ok ns h k d n1 (kk - 1) hsub
      have e3' : callN prog (d + k + 9) 11 [.loc 0, cols, .int (kk - 1)] [.lst [.lst (ns.map .int), .int n1]] = .ok (.fz (encC x)) [.lst [.lst (ns.map .int), .int n2]] := e3
      obtain ⟨y, n3, g3, z3, e4⟩ := choice_ok ns h k d n2 (kk - 1) hsub
      have e4' : callN prog (d + k + 9) 11 [.loc 0, cols, .int (kk - 1)] [.lst [.lst (ns.map .int), .int n2]] = .ok (.fz (encC y)) [.lst [.lst (ns.map .int), .int n3]] := e4
      refine ⟨.ite b x y, n3, ⟨g1, z1, g2, g3⟩, by simp only [depC]; omega, ?_⟩
      refine call_rt (F := F11) rfl rfl ⟨[.pv (.loc 0), .pv cols, .pv (.int kk)], ?_⟩
      rw [body11]
      show B11 (callN prog (d + k + 9)) [.pv (.loc 0), .pv cols, .pv (.int kk)] _ = _
      simp [B11, andT, encC, c4, e2', e3', e4', e1', hr, h0]
/-- the values of a turn -/
structure Vals where
  k : Val
  x : Val
  y : Val
  hk : k = .non ∨ ∃ s, k = .str s
  hx : x = .non ∨ ∃ i, x = .int i
  hy : y = .non ∨ ∃ i, y = .int i
abbrev Vals.d (v : Vals) : Val := .dic [(.str "k", v.k), (.str "x", v.x), (.str "y", v.y)]
def valT (v : Vals) : Term → Val
  | .col x => if x = "k" then v.k else if x = "x" then v.x else v.y
  | .num i => .int i
  | .txt s => .str s
  | .nul _ => .non
theorem valT_num (v : Vals) : ∀ t, NumT t → valT v t = .non ∨ ∃ i, valT v t = .int i
  | .col x, h => by
    rcases h with rfl | rfl
    · exact v.hx
    · exact v.hy
  | .num i, _ => .inr ⟨i, rfl⟩
  | .txt _, h => h.elim
  | .nul _, _ => .inl rfl
theorem valT_txt (v : Vals) : ∀ t, TxtT t → valT v t = .non ∨ ∃ i, valT v t = .str i
  | .col x, h => by
    have h' : x = "k" := h
    subst h'
    exact v.hk
  | .num i, h => h.elim
  | .txt s, _ => .inr ⟨s, rfl⟩
  | .nul _, _ => .inl rfl
theorem value_of_ok (d : Nat) (v : Vals) (S : Mem) (t : Term) (h : NumT t ∨ TxtT t) : callN prog (d + 1) 0 [v.d, encT t] S = .ok (.fz (valT v t)) S := by
  cases t with
  | col x =>
    have hx : x = "x" ∨ x = "y" ∨ x = "k" := by
      rcases h with (h | h) | h
      · exact .inl h
      · exact .inr (.inl h)
      · exact .inr (.inr h)
    rw [call_of (F := F0) rfl, runFn, body0]
    rcases hx with rfl | rfl | rfl <;> simp [B0, F0, N0, encT, valT, L2.atI, L2.ixN, dget, keq]
  | num i =>
    rw [call_of (F := F0) rfl, runFn, body0]
    simp [B0, F0, N0, encT, valT, L2.atI, L2.ixN]
  | txt i =>
    rw [call_of (F := F0) rfl, runFn, body0]
    simp [B0, F0, N0, encT, valT, L2.atI, L2.ixN]
  | nul i =>
    rw [call_of (F := F0) rfl, runFn, body0]
    simp [B0, F0, N0, encT, valT, L2.atI, L2.ixN]
theorem law_value_ok (d : Nat) (v : Vals) (S : Mem) (t : Term) (h : NumT t ∨ TxtT t) : callN prog (d + 1) 9 [v.d, encT t] S = .ok (.fz (valT v t)) S := by
  cases t with
  | col x =>
    have hx : x = "x" ∨ x = "y" ∨ x = "k" := by
      rcases h with (h | h) | h
      · exact .inl h
      · exact .inr (.inl h)
      · exact .inr (.inr h)
    rw [call_of (F := F9) rfl, runFn, body9]
    rcases hx with rfl | rfl | rfl <;> simp [B9, F9, N9, encT, valT, L2.atI, L2.ixN, dget, keq]
  | num i =>
    rw [call_of (F := F9) rfl, runFn, body9]
    simp [B9, F9, N9, encT, valT, L2.atI, L2.ixN]
  | txt i =>
    rw [call_of (F := F9) rfl, runFn, body9]
    simp [B9, F9, N9, encT, valT, L2.atI, L2.ixN]
  | nul i =>
    rw [call_of (F := F9) rfl, runFn, body9]
    simp [B9, F9, N9, encT, valT, L2.atI, L2.ixN]
end Law05
end

section
set_option Elab.async false
set_option linter.all false
set_option maxRecDepth 100000
set_option maxHeartbeats 2000000
namespace Law05
open PySem Lk
def isNul : Val → Bool
  | .non => true
  | _ => false
def lessV : Val → Val → Bool
  | .int i, .int j => decide (i < j)
  | _, _ => false
def tv (v : Vals) : Told → Option Bool
  | .yes => some true
  | .missing t => some (isNul (valT v t))
  | .is t u => if isNul (valT v t) || isNul (valT v u) then none else some (veq (valT v t) (valT v u))
  | .less t u => if isNul (valT v t) || isNul (valT v u) then none else some (lessV (valT v t) (valT v u))
  | .not a => (tv v a).map (!·)
  | .and a b => if tv v a = some false ∨ tv v b = some false then some false else if tv v a = none ∨ tv v b = none then none else some true
  | .or a b => if tv v a = some true ∨ tv v b = some true then some true else if tv v a = none ∨ tv v b = none then none else some false
def encO : Option Bool → Val
  | none => .non
  | some b => .bl b
theorem truth_ok (v : Vals) (S : Mem) : ∀ (b : Told) (d : Nat), GoodB b → dep b ≤ d → callN prog (d + 2) 1 [v.d, encB b] S = .ok (.fz (encO (tv v b))) S
  | .yes, d, _, _ => by
    rw [call_of (F := F1) rfl, runFn, body1]
    simp [B1, F1, N1, encB, L2.atI, L2.ixN, tv, encO]
  | .missing t, d, g, _ => by
    have e := value_of_ok d v S t g
    rw [call_of (F := F1) rfl, runFn, body1]
    have hn : valT v t = .non ∨ isNul (valT v t) = false := by cases valT v t <;> simp [isNul]
    rcases hn with hn | hn
    · rw [hn] at e
      simp [B1, F1, N1, encB, L2.atI, L2.ixN, tv, encO, e, hn, isNul]
    · have hv : view S (valT v t) = valT v t := by
        rcases g with g | g
        · rcases valT_num v t g with h | ⟨i, h⟩ <;> rw [h] <;> rfl
        · rcases valT_txt v t g with h | ⟨i, h⟩ <;> rw [h] <;> rfl
      have hf : isNonV false [valT v t] = some (.fz (.bl false)) := by
        revert hn
        cases valT v t <;> simp [isNul, isNonV, rbl]
      simp [B1, F1, N1, encB, L2.atI, L2.ixN, tv, encO, e, hn, hv, hf, -isNonV]
  | .is t u, d, g, _ => by
    have c2 : (2 : Nat) ≤ cap := by unfold cap; omega
    have e1 := value_of_ok d v S t (g.elim (fun h => .inl h.1) (fun h => .inr h.1))
    have e2 := value_of_ok d v S u (g.elim (fun h => .inl h.2) (fun h => .inr h.2))
    rw [call_of (F := F1) rfl, runFn, body1]
    rcases g with g | g
    · rcases valT_num v t g.1 with h1 | ⟨i, h1⟩ <;> rcases valT_num v u g.2 with h2 | ⟨j, h2⟩ <;> rw [h1] at e1 <;> rw [h2] at e2 <;> simp [B1, F1, N1, encB, L2.atI, L2.ixN, tv, encO, e1, e2, h1, h2, isNul, c2, andT]
    · rcases valT_txt v t g.1 with h1 | ⟨i, h1⟩ <;> rcases valT_txt v u g.2 with h2 | ⟨j, h2⟩ <;> rw [h1] at e1 <;> rw [h2] at e2 <;> simp [B1, F1, N1, encB, L2.atI, L2.ixN, tv, encO, e1, e2, h1, h2, isNul, c2, andT]
  | .less t u, d, g, _ => by
    have c2 : (2 : Nat) ≤ cap := by unfold cap; omega
    have e1 := value_of_ok d v S t (.inl g.1)
    have e2 := value_of_ok d v S u (.inl g.2)
    rw [call_of (F := F1) rfl, runFn, body1]
    rcases valT_num v t g.1 with h1 | ⟨i, h1⟩ <;> rcases valT_num v u g.2 with h2 | ⟨j, h2⟩ <;> rw [h1] at e1 <;> rw [h2] at e2 <;> simp [B1, F1, N1, encB, L2.atI, L2.ixN, tv, encO, e1, e2, h1, h2, isNul, lessV, c2, andT]
  | .not a, 0, g, hd => by simp only [dep] at hd; omega
  | .not a, d + 1, g, hd => by
    have e := truth_ok v S a d g (by simp only [dep] at hd; omega)
    rw [call_of (F := F1) rfl, runFn, body1]
    cases h : tv v a with
    | none => rw [h] at e; simp [encO] at e; simp [B1, F1, N1, encB, L2.atI, L2.ixN, tv, encO, e, h]
    | some x => rw [h] at e; simp [B1, F1, N1, encB, L2.atI, L2.ixN, tv, encO, e, h]
  | .and a b, 0, g, hd => by simp only [dep] at hd; omega
  | .and a b, d + 1, g, hd => by
    have e1 := truth_ok v S a d g.1 (by simp only [dep] at hd; omega)
    have e2 := truth_ok v S b d g.2 (by simp only [dep] at hd; omega)
    have c2 : (2 : Nat) ≤ cap := by unfold cap; omega
    rw [call_of (F := F1) rfl, runFn, body1]
    cases h1 : tv v a with
    | none => cases h2 : tv v b with
      | none => rw [h1] at e1; rw [h2] at e2; simp [B1, F1, N1, encB, L2.atI, L2.ixN, tv, encO, e1, e2, h1, h2, c2, retSlot]
      | some y => rw [h1] at e1; rw [h2] at e2; cases y <;> simp [B1, F1, N1, encB, L2.atI, L2.ixN, tv, encO, e1, e2, h1, h2, c2, retSlot]
    | some x => cases h2 : tv v b with
      | none => rw [h1] at e1; rw [h2] at e2; cases x <;> simp [B1, F1, N1, encB, L2.atI, L2.ixN, tv, encO, e1, e2, h1, h2, c2, retSlot]
      | some y => rw [h1] at e1; rw [h2] at e2; cases x <;> cases y <;> simp [B1, F1, N1, encB, L2.atI, L2.ixN, tv, encO, e1, e2, h1, h2, c2, retSlot]
  | .or a b, 0, g, hd => by simp only [dep] at hd; omega
  | .or a b, d + 1, g, hd => by
    have e1 := truth_ok v S a d g.1 (by simp only [dep] at hd; omega)
    have e2 := truth_ok v S b d g.2 (by simp only [dep] at hd; omega)
    have c2 : (2 : Nat) ≤ cap := by unfold cap; omega
    rw [call_of (F := F1) rfl, runFn, body1]
    cases h1 : tv v a with
    | none => cases h2 : tv v b with
      | none => rw [h1] at e1; rw [h2] at e2; simp [B1, F1, N1, encB, L2.atI, L2.ixN, tv, encO, e1, e2, h1, h2, c2, retSlot]
      | some y => rw [h1] at e1; rw [h2] at e2; cases y <;> simp [B1, F1, N1, encB, L2.atI, L2.ixN, tv, encO, e1, e2, h1, h2, c2, retSlot]
    | some x => cases h2 : tv v b with
      | none => rw [h1] at e1; rw [h2] at e2; cases x <;> simp [B1, F1, N1, encB, L2.atI, L2.ixN, tv, encO, e1, e2, h1, h2, c2, retSlot]
      | some y => rw [h1] at e1; rw [h2] at e2; cases x <;> cases y <;> simp [B1, F1, N1, encB, L2.atI, L2.ixN, tv, encO, e1, e2, h1, h2, c2, retSlot]
end Law05
end

section
set_option Elab.async false
set_option linter.all false
set_option maxRecDepth 100000
set_option maxHeartbeats 2000000
namespace Law05
open PySem Lk
theorem sure_ok (v : Vals) (S : Mem) : ∀ (b : Told) (d : Nat) (w : Bool), GoodB b → dep b ≤ d → callN prog (d + 2) 10 [v.d, encB b, .bl w] S = .ok (.fz (.bl (decide (tv v b = some w)))) S
  | .yes, d, w, _, _ => by
    rw [call_of (F := F10) rfl, runFn, body10]
    cases w <;> simp [B10, F10, N10, encB, L2.atI, L2.ixN, tv, retSlot]
  | .missing t, d, w, g, _ => by
    have c2 : (2 : Nat) ≤ cap := by unfold cap; omega
    have e := law_value_ok d v S t g
    rw [call_of (F := F10) rfl, runFn, body10]
    rcases g with g | g
    · rcases valT_num v t g with h1 | ⟨i, h1⟩ <;> rw [h1] at e <;> cases w <;> simp [B10, F10, N10, encB, L2.atI, L2.ixN, tv, e, h1, c2, sliceA, sliceV, cut, HT.sIx, isNul, b2i]
    · rcases valT_txt v t g with h1 | ⟨i, h1⟩ <;> rw [h1] at e <;> cases w <;> simp [B10, F10, N10, encB, L2.atI, L2.ixN, tv, e, h1, c2, sliceA, sliceV, cut, HT.sIx, isNul, b2i]
  | .is t u, d, w, g, _ => by
    have c2 : (2 : Nat) ≤ cap := by unfold cap; omega
    have e1 := law_value_ok d v S t (g.elim (fun h => .inl h.1) (fun h => .inr h.1))
    have e2 := law_value_ok d v S u (g.elim (fun h => .inl h.2) (fun h => .inr h.2))
    rw [call_of (F := F10) rfl, runFn, body10]
    rcases g with g | g
    · rcases valT_num v t g.1 with h1 | ⟨i, h1⟩ <;> rcases valT_num v u g.2 with h2 | ⟨j, h2⟩ <;> rw [h1] at e1 <;> rw [h2] at e2 <;> cases w <;> simp [B10, F10, N10, encB, L2.atI, L2.ixN, tv, e1, e2, h1, h2, c2, sliceA, sliceV, cut, HT.sIx, isNul, b2i, boolM]
    · rcases valT_txt v t g.1 with h1 | ⟨i, h1⟩ <;> rcases valT_txt v u g.2 with h2 | ⟨j, h2⟩ <;> rw [h1] at e1 <;> rw [h2] at e2 <;> cases w <;> simp [B10, F10, N10, encB, L2.atI, L2.ixN, tv, e1, e2, h1, h2, c2, sliceA, sliceV, cut, HT.sIx, isNul, b2i, boolM]
  | .less t u, d, w, g, _ => by
    have c2 : (2 : Nat) ≤ cap := by unfold cap; omega
    have e1 := law_value_ok d v S t (.inl g.1)
    have e2 := law_value_ok d v S u (.inl g.2)
    rw [call_of (F := F10) rfl, runFn, body10]
    rcases valT_num v t g.1 with h1 | ⟨i, h1⟩ <;> rcases valT_num v u g.2 with h2 | ⟨j, h2⟩ <;> rw [h1] at e1 <;> rw [h2] at e2 <;> cases w <;> simp [B10, F10, N10, encB, L2.atI, L2.ixN, tv, e1, e2, h1, h2, c2, sliceA, sliceV, cut, HT.sIx, isNul, b2i, boolM, lessV] <;> (rw [Bool.eq_iff_iff]; simp)
  | .not a, 0, w, g, hd => by simp only [dep] at hd; omega
  | .not a, d + 1, w, g, hd => by
    have e := sure_ok v S a d (!w) g (by simp only [dep] at hd; omega)
    rw [call_of (F := F10) rfl, runFn, body10]
    cases w <;> simp at e <;> cases h : tv v a <;> simp [h] at e <;> simp [B10, F10, N10, encB, L2.atI, L2.ixN, tv, e, h]
  | .and a b, 0, w, g, hd => by simp only [dep] at hd; omega
  | .and a b, d + 1, w, g, hd => by
    have e1 := sure_ok v S a d w g.1 (by simp only [dep] at hd; omega)
    have e2 := sure_ok v S b d w g.2 (by simp only [dep] at hd; omega)
    have c2 : (2 : Nat) ≤ cap := by unfold cap; omega
    rw [call_of (F := F10) rfl, runFn, body10]
    rcases h1 : tv v a with _ | (_ | _) <;> rcases h2 : tv v b with _ | (_ | _) <;> cases w <;> simp [h1] at e1 <;> simp [h2] at e2 <;> simp [B10, F10, N10, encB, L2.atI, L2.ixN, tv, e1, e2, h1, h2, c2, sliceA, sliceV, cut, HT.sIx, b2i]
  | .or a b, 0, w, g, hd => by simp only [dep] at hd; omega
  | .or a b, d + 1, w, g, hd => by
    have e1 := sure_ok v S a d w g.1 (by simp only [dep] at hd; omega)
    have e2 := sure_ok v S b d w g.2 (by simp only [dep] at hd; omega)
    have c2 : (2 : Nat) ≤ cap := by unfold cap; omega
    rw [call_of (F := F10) rfl, runFn, body10]
    rcases h1 : tv v a with _ | (_ | _) <;> rcases h2 : tv v b with _ | (_ | _) <;> cases w <;> simp [h1] at e1 <;> simp [h2] at e2 <;> simp [B10, F10, N10, encB, L2.atI, L2.ixN, tv, e1, e2, h1, h2, c2, sliceA, sliceV, cut, HT.sIx, b2i]
end Law05
end

section
set_option Elab.async false
set_option linter.all false
set_option maxRecDepth 100000
set_option maxHeartbeats 2000000
namespace Law05
open PySem Lk
def whK (o : Out Lk.Flow) (t : M Bool) (b : M Lk.Flow) (n : Nat) : Out Lk.Flow := match o with
  | .ok .nx ρ S | .ok .ct ρ S => whileL t b n ρ S
  | .ok .bk ρ S => .ok .nx ρ S
  | .ok (.rt v) ρ S => .ok (.rt v) ρ S
  | .exc c fs ρ S => .exc c fs ρ S
  | .bad => .bad
theorem whileL_succ (t : M Bool) (b : M Lk.Flow) (n : Nat) (ρ : Lk.Env) (S : Mem) : whileL t b (n + 1) ρ S = bndK (t ρ S) fun x ρ S => if x then whK (b ρ S) t b n else .ok .nx ρ S := by
  show bndK (t ρ S) _ = _
  congr 1
  funext x ρ S
  cases x with
  | true =>
    show bndK (b ρ S) _ = whK (b ρ S) t b n
    cases b ρ S with
    | ok a ρ' S' => cases a <;> rfl
    | exc _ _ _ _ => rfl
    | bad => rfl
  | false => rfl
@[simp] theorem whK_nx (t : M Bool) (b : M Lk.Flow) (n : Nat) (ρ : Lk.Env) (S : Mem) : whK (.ok .nx ρ S) t b n = whileL t b n ρ S := rfl
def walkC (v : Vals) : Cho → Term
  | .leaf t => t
  | .ite b x y => if tv v b = some true then walkC v x else walkC v y
theorem walkC_num (v : Vals) : ∀ c, GoodC c → NumT (walkC v c)
  | .leaf t, g => g
  | .ite b x y, g => by
    unfold walkC
    split
    · exact walkC_num v x g.2.2.1
    · exact walkC_num v y g.2.2.2
theorem wh_ok (v : Vals) (S : Mem) (c0 : Caller) (hc : ∀ b, GoodB b → dep b ≤ 2 → c0 1 [v.d, encB b] S = .ok (.fz (encO (tv v b))) S) : ∀ (c : Cho) (n : Nat), GoodC c → depC c < n →
    whileL ((truM (app [.ex (vE (app [.sl 1, .ex (vE (csE (.int 0)))] (two getV))), .ex (vE (csE (.str "if")))] (two eqV))) c0) ((sqS [(setE 1 false (ifE (truM (callE 1 2 [(nmE 0), (app [.sl 1, .ex (vE (csE (.int 1)))] (two getV))] [])) (app [.sl 1, .ex (vE (csE (.int 2)))] (two getV)) (app [.sl 1, .ex (vE (csE (.int 3)))] (two getV))))]) c0) n
      [.pv v.d, .pv (encC c)] S = .ok .nx [.pv v.d, .pv (encT (walkC v c))] S
  | _, 0, _, h => by omega
  | .leaf t, n + 1, g, h => by
    rw [whileL_succ]
    cases t <;> simp [encC, encT, L2.atI, L2.ixN, walkC]
  | .ite b x y, n + 1, g, h => by
    rw [whileL_succ]
    have e := hc b g.1 g.2.1
    have ix := wh_ok v S c0 hc x n g.2.2.1 (by simp only [depC] at h; omega)
    have iy := wh_ok v S c0 hc y n g.2.2.2 (by simp only [depC] at h; omega)
    rcases hb : tv v b with _ | (_ | _) <;> rw [hb] at e <;> simp only [encO] at e <;> simp [encC, L2.atI, L2.ixN, e, walkC, hb]
    · exact iy
    · exact iy
    · exact ix
theorem chosen_ok (v : Vals) (S : Mem) (d : Nat) (c : Cho) (g : GoodC c) (h : depC c ≤ 6) : callN prog (d + 5) 2 [v.d, encC c] S = .ok (.fz (valT v (walkC v c))) S := by
  have e1 := wh_ok v S (callN prog (d + 4)) (fun b gb hb => truth_ok v S b (d + 2) gb (by omega)) c fuelW g (by unfold fuelW; omega)
  have e2 := value_of_ok (d + 3) v S (walkC v c) (.inl (walkC_num v c g))
  have e2' : callN prog (d + 4) 0 [v.d, encT (walkC v c)] S = .ok (.fz (valT v (walkC v c))) S := e2
  refine call_rt (F := F2) rfl rfl ⟨[.pv v.d, .pv (encT (walkC v c))], ?_⟩
  rw [body2]
  show sqS [whE _ _, _] (callN prog (d + 4)) [.pv v.d, .pv (encC c)] S = _
  rw [sqS_cons]
  show seqK (whileL _ _ fuelW _ _) _ _ = _
  rw [e1, seqK_nx]
  simp [e2']
end Law05
end

section
set_option Elab.async false
set_option linter.all false
set_option maxRecDepth 100000
set_option maxHeartbeats 2000000
namespace Law05
open PySem Lk
/-- the statements of a turn, from the left -/
def q0 : Caller → M Lk.Flow := (setE 4 false (dctE [((csE (.str "k")), (callE 5 2 [(nmE 1), (lstE [(csE .non), (csE (.str "a")), (csE (.str "b")), (csE (.str ""))])] [])), ((csE (.str "x")), (callE 5 2 [(nmE 1), (lstE [(csE .non), (csE (.int 0)), (csE (.int 1)), (csE (.int 40)), (app [.ex (vE (csE (.int 1)))] negV)])] [])), ((csE (.str "y")), (callE 5 2 [(nmE 1), (lstE [(csE .non), (csE (.int 0)), (csE (.int 2)), (app [.ex (vE (csE (.int 10))), .ex (vE (csE (.int 20)))] (two powV))])] []))]))
def q1 : Caller → M Lk.Flow := (parE 10 11 [(app [.sl 4] dictV), (callE 8 3 [(nmE 1), (nmE 2), (csE (.int 6))] [])])
def q2 : Caller → M Lk.Flow := (setE 5 false (ifE (truM (callE 10 3 [(nmE 4), (nmE 11), (csE (.bl true))] [])) (csE (.bl true)) (ifE (truM (callE 10 3 [(nmE 4), (nmE 11), (csE (.bl false))] [])) (csE (.bl false)) (csE .non))))
def q3 : Caller → M Lk.Flow := (setE 6 false (callE 1 2 [(nmE 4), (nmE 11)] []))
def q4 : Caller → M Lk.Flow := (ifS (fun c => andT .Or c [(truM (app [.sl 6, .sl 5] (two neV))), (truM (app [.sl 4, .sl 10] (two neV)))]) (sqS [(retE (csE (.bl false)))]) (sqS []))
def q5 : Caller → M Lk.Flow := (setE 7 false (callE 11 3 [(nmE 1), (nmE 2), (csE (.int 6))] []))
def q6 : Caller → M Lk.Flow := (setE 8 false (nmE 7))
def q7 : Caller → M Lk.Flow := (forE (app [.ex (vE (csE (.int 7)))] rangeV) (.nm 9) (sqS [(ifS (truM (app [.ex (vE (app [.sl 8, .ex (vE (csE (.int 0)))] (two getV))), .ex (vE (csE (.str "if")))] (two eqV))) (sqS [(setE 8 false (ifE (truM (callE 10 3 [(nmE 4), (app [.sl 8, .ex (vE (csE (.int 1)))] (two getV)), (csE (.bl true))] [])) (app [.sl 8, .ex (vE (csE (.int 2)))] (two getV)) (app [.sl 8, .ex (vE (csE (.int 3)))] (two getV))))]) (sqS []))]))
def q8 : Caller → M Lk.Flow := (ifS (truM (app [.ex (vE (callE 2 2 [(nmE 4), (nmE 7)] [])), .ex (vE (callE 9 2 [(nmE 4), (nmE 8)] []))] (two neV))) (sqS [(retE (csE (.bl false)))]) (sqS []))
theorem qv0 (v : Vals) : veq v.k v.k = true ∧ veq v.x v.x = true ∧ veq v.y v.y = true ∧ Lk.plain 59 v.k = true ∧ Lk.plain 59 v.x = true ∧ Lk.plain 59 v.y = true := by
  refine ⟨?_, ?_, ?_, ?_, ?_, ?_⟩
  · rcases v.hk with h | ⟨_, h⟩ <;> rw [h] <;> simp
  · rcases v.hx with h | ⟨_, h⟩ <;> rw [h] <;> simp
  · rcases v.hy with h | ⟨_, h⟩ <;> rw [h] <;> simp
  · rcases v.hk with h | ⟨_, h⟩ <;> rw [h] <;> simp
  · rcases v.hx with h | ⟨_, h⟩ <;> rw [h] <;> simp
  · rcases v.hy with h | ⟨_, h⟩ <;> rw [h] <;> simp
abbrev colsS (s : Lk.Slot) : Prop := s = .pv cols ∨ s = .ol [.tup [.str "k", .str "text"], .tup [.str "x", .str "number"], .tup [.str "y", .str "number"]]
section
variable (ns : List Int) (h : ns.length ≤ 63)
include h
theorem st0 (n : Int) (a s2 s3 s4 s5 s6 s7 s8 s9 s10 s11 : Lk.Slot) : ∃ (v : Vals) (n' : Int), q0 (callN prog 29) [a, .pv (.loc 0), s2, s3, s4, s5, s6, s7, s8, s9, s10, s11] (St ns n) = .ok .nx [a, .pv (.loc 0), s2, s3, .od [(.str "k", v.k), (.str "x", v.x), (.str "y", v.y)], s5, s6, s7, s8, s9, s10, s11] (St ns n') := by
  obtain ⟨k, n1, m1, e1⟩ := pick_ok 26 ns n [.non, .str "a", .str "b", .str ""] h (by simp)
  obtain ⟨x, n2, m2, e2⟩ := pick_ok 26 ns n1 [.non, .int 0, .int 1, .int 40, .int (-1)] h (by simp)
  obtain ⟨y, n3, m3, e3⟩ := pick_ok 26 ns n2 [.non, .int 0, .int 2, .int (10 ^ 20)] h (by simp)
  have hk : k = .non ∨ ∃ s, k = .str s := by
    simp only [List.mem_cons, List.not_mem_nil, or_false] at m1
    rcases m1 with rfl | rfl | rfl | rfl
    · exact .inl rfl
    all_goals exact .inr ⟨_, rfl⟩
  have hx : x = .non ∨ ∃ s, x = .int s := by
    simp only [List.mem_cons, List.not_mem_nil, or_false] at m2
    rcases m2 with rfl | rfl | rfl | rfl | rfl
    · exact .inl rfl
    all_goals exact .inr ⟨_, rfl⟩
  have hy : y = .non ∨ ∃ s, y = .int s := by
    simp only [List.mem_cons, List.not_mem_nil, or_false] at m3
    rcases m3 with rfl | rfl | rfl | rfl
    · exact .inl rfl
    all_goals exact .inr ⟨_, rfl⟩
  refine ⟨⟨k, x, y, hk, hx, hy⟩, n3, ?_⟩
  have c4 : (4 : Nat) ≤ cap := by unfold cap; omega
  have c5 : (5 : Nat) ≤ cap := by unfold cap; omega
  have e1' : callN prog 29 5 [.loc 0, .lst [.non, .str "a", .str "b", .str ""]] [.lst [.lst (ns.map .int), .int n]] = .ok (.fz k) [.lst [.lst (ns.map .int), .int n1]] := e1
  have e2' : callN prog 29 5 [.loc 0, .lst [.non, .int 0, .int 1, .int 40, .int (-1)]] [.lst [.lst (ns.map .int), .int n1]] = .ok (.fz x) [.lst [.lst (ns.map .int), .int n2]] := e2
  have e3' : callN prog 29 5 [.loc 0, .lst [.non, .int 0, .int 2, .int 100000000000000000000]] [.lst [.lst (ns.map .int), .int n2]] = .ok (.fz y) [.lst [.lst (ns.map .int), .int n3]] := e3
  simp [q0, c4, c5, e1', e2', e3', merge, dput, keq]
theorem st1 (n : Int) (v : Vals) (a s2 s3 s5 s6 s7 s8 s9 s10 s11 : Lk.Slot) (hs : colsS s2) : ∃ (b : Told) (n' : Int), GoodB b ∧ dep b ≤ 6 ∧ q1 (callN prog 29) [a, .pv (.loc 0), s2, s3, .od [(.str "k", v.k), (.str "x", v.x), (.str "y", v.y)], s5, s6, s7, s8, s9, s10, s11] (St ns n) = .ok .nx [a, .pv (.loc 0), .pv cols, s3, .od [(.str "k", v.k), (.str "x", v.x), (.str "y", v.y)], s5, s6, s7, s8, s9, .pv v.d, .pv (encB b)] (St ns n') := by
  obtain ⟨b, n1, g, z, e⟩ := deep_ok ns h 6 17 n 6 rfl
  have e' : callN prog 29 8 [.loc 0, cols, .int 6] [.lst [.lst (ns.map .int), .int n]] = .ok (.fz (encB b)) [.lst [.lst (ns.map .int), .int n1]] := e
  refine ⟨b, n1, g, z, ?_⟩
  rcases hs with rfl | rfl
  · simp [q1, e']
  · simp [q1, e']
theorem st2 (n : Int) (v : Vals) (b : Told) (g : GoodB b) (z : dep b ≤ 6) (a s2 s3 s5 s6 s7 s8 s9 s10 : Lk.Slot) (S : Mem) : q2 (callN prog 29) [a, .pv (.loc 0), s2, s3, .od [(.str "k", v.k), (.str "x", v.x), (.str "y", v.y)], s5, s6, s7, s8, s9, s10, .pv (encB b)] S = .ok .nx [a, .pv (.loc 0), s2, s3, .pv v.d, .pv (encO (tv v b)), s6, s7, s8, s9, s10, .pv (encB b)] S := by
  have e1 : callN prog 29 10 [v.d, encB b, .bl true] S = .ok (.fz (.bl (decide (tv v b = some true)))) S := sure_ok v S b 27 true g (by omega)
  have e2 : callN prog 29 10 [v.d, encB b, .bl false] S = .ok (.fz (.bl (decide (tv v b = some false)))) S := sure_ok v S b 27 false g (by omega)
  rcases hb : tv v b with _ | (_ | _) <;> simp only [hb] at e1 e2 <;> simp at e1 e2 <;> simp [q2, e1, e2, encO]
theorem st3 (v : Vals) (b : Told) (g : GoodB b) (z : dep b ≤ 6) (a s2 s3 s5 s6 s7 s8 s9 s10 : Lk.Slot) (S : Mem) : q3 (callN prog 29) [a, .pv (.loc 0), s2, s3, .pv v.d, s5, s6, s7, s8, s9, s10, .pv (encB b)] S = .ok .nx [a, .pv (.loc 0), s2, s3, .pv v.d, s5, .pv (encO (tv v b)), s7, s8, s9, s10, .pv (encB b)] S := by
  have e1 : callN prog 29 1 [v.d, encB b] S = .ok (.fz (encO (tv v b))) S := truth_ok v S b 27 g (by omega)
  simp [q3, e1]
theorem st4 (c : Caller) (v : Vals) (o : Option Bool) (a s1 s2 s3 s7 s8 s9 s11 : Lk.Slot) (S : Mem) : q4 c [a, s1, s2, s3, .pv v.d, .pv (encO o), .pv (encO o), s7, s8, s9, .pv v.d, s11] S = .ok .nx [a, s1, s2, s3, .pv v.d, .pv (encO o), .pv (encO o), s7, s8, s9, .pv v.d, s11] S := by
  obtain ⟨h1, h2, h3, h4, h5, h6⟩ := qv0 v
  rcases o with _ | b
  · simp [q4, andT, encO, dplain, h1, h2, h3, h4, h5, h6, veqd, dget, keq]
  · simp [q4, andT, encO, dplain, h1, h2, h3, h4, h5, h6, veqd, dget, keq]
theorem st5 (n : Int) (a s3 s4 s5 s6 s7 s8 s9 s10 s11 : Lk.Slot) : ∃ (x : Cho) (n' : Int), GoodC x ∧ depC x ≤ 6 ∧ q5 (callN prog 29) [a, .pv (.loc 0), .pv cols, s3, s4, s5, s6, s7, s8, s9, s10, s11] (St ns n) = .ok .nx [a, .pv (.loc 0), .pv cols, s3, s4, s5, s6, .pv (encC x), s8, s9, s10, s11] (St ns n') := by
  obtain ⟨x, n1, g, z, e⟩ := choice_ok ns h 6 14 n 6 rfl
  have e' : callN prog 29 11 [.loc 0, cols, .int 6] [.lst [.lst (ns.map .int), .int n]] = .ok (.fz (encC x)) [.lst [.lst (ns.map .int), .int n1]] := e
  exact ⟨x, n1, g, z, by simp [q5, e']⟩
end
end Law05
end

section
set_option Elab.async false
set_option linter.all false
set_option maxRecDepth 100000
set_option maxHeartbeats 2000000
namespace Law05
open PySem Lk
theorem loop7 (v : Vals) (S : Mem) (a s1 s2 s3 s5 s6 s7 s10 s11 : Lk.Slot) : ∀ (xs : List Val) (c : Cho) (s9 : Lk.Slot), GoodC c → depC c ≤ xs.length → ∃ s9', forL (fun x => setS 9 (.pv x)) ((sqS [(ifS (truM (app [.ex (vE (app [.sl 8, .ex (vE (csE (.int 0)))] (two getV))), .ex (vE (csE (.str "if")))] (two eqV))) (sqS [(setE 8 false (ifE (truM (callE 10 3 [(nmE 4), (app [.sl 8, .ex (vE (csE (.int 1)))] (two getV)), (csE (.bl true))] [])) (app [.sl 8, .ex (vE (csE (.int 2)))] (two getV)) (app [.sl 8, .ex (vE (csE (.int 3)))] (two getV))))]) (sqS []))]) (callN prog 29)) xs [a, s1, s2, s3, .pv v.d, s5, s6, s7, .pv (encC c), s9, s10, s11] S = .ok .nx [a, s1, s2, s3, .pv v.d, s5, s6, s7, .pv (encT (walkC v c)), s9', s10, s11] S
  | [], .leaf t, s9, _, _ => ⟨s9, rfl⟩
  | [], .ite b x y, s9, _, z => by simp [depC] at z
  | u :: xs, .leaf t, s9, g, z => by
    obtain ⟨s9', e⟩ := loop7 v S a s1 s2 s3 s5 s6 s7 s10 s11 xs (.leaf t) (.pv u) g (Nat.zero_le _)
    refine ⟨s9', ?_⟩
    rw [forL_cons]
    simp only [encC, walkC] at e ⊢
    cases t <;> simp [encT, L2.atI, L2.ixN] at e ⊢ <;> exact e
  | u :: xs, .ite b x y, s9, g, z => by
    have e1 : callN prog 29 10 [v.d, encB b, .bl true] S = .ok (.fz (.bl (decide (tv v b = some true)))) S := sure_ok v S b 27 true g.1 (by have := g.2.1; omega)
    have zx : depC x ≤ xs.length := by simp [depC] at z; omega
    have zy : depC y ≤ xs.length := by simp [depC] at z; omega
    by_cases hb : tv v b = some true
    · obtain ⟨s9', e⟩ := loop7 v S a s1 s2 s3 s5 s6 s7 s10 s11 xs x (.pv u) g.2.2.1 zx
      refine ⟨s9', ?_⟩
      rw [forL_cons]
      simp [hb] at e1
      simp [encC, L2.atI, L2.ixN, e1, walkC, hb]
      exact e
    · obtain ⟨s9', e⟩ := loop7 v S a s1 s2 s3 s5 s6 s7 s10 s11 xs y (.pv u) g.2.2.2 zy
      refine ⟨s9', ?_⟩
      rw [forL_cons]
      simp [hb] at e1
      simp [encC, L2.atI, L2.ixN, e1, walkC, hb]
      exact e
theorem st7 (v : Vals) (S : Mem) (a s1 s2 s3 s5 s6 s7 s9 s10 s11 : Lk.Slot) (c : Cho) (g : GoodC c) (z : depC c ≤ 6) : ∃ s9', q7 (callN prog 29) [a, s1, s2, s3, .pv v.d, s5, s6, s7, .pv (encC c), s9, s10, s11] S = .ok .nx [a, s1, s2, s3, .pv v.d, s5, s6, s7, .pv (encT (walkC v c)), s9', s10, s11] S := by
  obtain ⟨s9', e⟩ := loop7 v S a s1 s2 s3 s5 s6 s7 s10 s11 (rangeL 0 7) c s9 g (by simp [rangeL]; omega)
  refine ⟨s9', ?_⟩
  have c7 : (7 : Nat) ≤ cap := by unfold cap; omega
  have e' : q7 (callN prog 29) [a, s1, s2, s3, .pv v.d, s5, s6, s7, .pv (encC c), s9, s10, s11] S = forL (fun x => setS 9 (.pv x)) ((sqS [(ifS (truM (app [.ex (vE (app [.sl 8, .ex (vE (csE (.int 0)))] (two getV))), .ex (vE (csE (.str "if")))] (two eqV))) (sqS [(setE 8 false (ifE (truM (callE 10 3 [(nmE 4), (app [.sl 8, .ex (vE (csE (.int 1)))] (two getV)), (csE (.bl true))] [])) (app [.sl 8, .ex (vE (csE (.int 2)))] (two getV)) (app [.sl 8, .ex (vE (csE (.int 3)))] (two getV))))]) (sqS []))]) (callN prog 29)) (rangeL 0 7) [a, s1, s2, s3, .pv v.d, s5, s6, s7, .pv (encC c), s9, s10, s11] S := by
    unfold q7
    rw [forE_ap]
    simp only [app_ap, pres_cons, pres_nil, pre_ex, vE_ap, csE_ap, bndK_ok, ret_ap, bnd_ap, val_fz]
    simp only [posts, Opd.post, view_int, rangeV, Option.bind, Option.map, asg_nm, slot_fz]
    simp [small62, c7]
  rw [e', e]
theorem st6 (c : Caller) (S : Mem) (a s1 s2 s3 s4 s5 s6 s8 s9 s10 s11 : Lk.Slot) (w : Val) : q6 c [a, s1, s2, s3, s4, s5, s6, .pv w, s8, s9, s10, s11] S = .ok .nx [a, s1, s2, s3, s4, s5, s6, .pv w, .pv w, s9, s10, s11] S := by
  simp [q6]
theorem st8 (v : Vals) (S : Mem) (a s1 s2 s3 s5 s6 s9 s10 s11 : Lk.Slot) (c : Cho) (g : GoodC c) (z : depC c ≤ 6) : q8 (callN prog 29) [a, s1, s2, s3, .pv v.d, s5, s6, .pv (encC c), .pv (encT (walkC v c)), s9, s10, s11] S = .ok .nx [a, s1, s2, s3, .pv v.d, s5, s6, .pv (encC c), .pv (encT (walkC v c)), s9, s10, s11] S := by
  have e1 : callN prog 29 2 [v.d, encC c] S = .ok (.fz (valT v (walkC v c))) S := chosen_ok v S 24 c g z
  have e2 : callN prog 29 9 [v.d, encT (walkC v c)] S = .ok (.fz (valT v (walkC v c))) S := law_value_ok 28 v S _ (.inl (walkC_num v c g))
  rcases valT_num v (walkC v c) (walkC_num v c g) with h1 | ⟨i, h1⟩ <;> rw [h1] at e1 e2 <;> simp [q8, e1, e2]
theorem turn_ok (ns : List Int) (h : ns.length ≤ 63) (n : Int) (a s2 s3 s4 s5 s6 s7 s8 s9 s10 s11 : Lk.Slot) (hs : colsS s2) : ∃ (n' : Int) (t4 t5 t6 t7 t8 t9 t10 t11 : Lk.Slot), sqS [q0, q1, q2, q3, q4, q5, q6, q7, q8] (callN prog 29) [a, .pv (.loc 0), s2, s3, s4, s5, s6, s7, s8, s9, s10, s11] (St ns n) = .ok .nx [a, .pv (.loc 0), .pv cols, s3, t4, t5, t6, t7, t8, t9, t10, t11] (St ns n') := by
  obtain ⟨v, n1, e0⟩ := st0 ns h n a s2 s3 s4 s5 s6 s7 s8 s9 s10 s11
  obtain ⟨b, n2, gb, zb, e1⟩ := st1 ns h n1 v a s2 s3 s5 s6 s7 s8 s9 s10 s11 hs
  have e2 := st2 ns h n2 v b gb zb a (.pv cols) s3 s5 s6 s7 s8 s9 (.pv v.d) (St ns n2)
  have e3 := st3 ns h v b gb zb a (.pv cols) s3 (.pv (encO (tv v b))) s6 s7 s8 s9 (.pv v.d) (St ns n2)
  have e4 := st4 ns h (callN prog 29) v (tv v b) a (.pv (.loc 0)) (.pv cols) s3 s7 s8 s9 (.pv (encB b)) (St ns n2)
  obtain ⟨x, n3, gx, zx, e5⟩ := st5 ns h n2 a s3 (.pv v.d) (.pv (encO (tv v b))) (.pv (encO (tv v b))) s7 s8 s9 (.pv v.d) (.pv (encB b))
  have e6 := st6 (callN prog 29) (St ns n3) a (.pv (.loc 0)) (.pv cols) s3 (.pv v.d) (.pv (encO (tv v b))) (.pv (encO (tv v b))) s8 s9 (.pv v.d) (.pv (encB b)) (encC x)
  obtain ⟨s9', e7⟩ := st7 v (St ns n3) a (.pv (.loc 0)) (.pv cols) s3 (.pv (encO (tv v b))) (.pv (encO (tv v b))) (.pv (encC x)) s9 (.pv v.d) (.pv (encB b)) x gx zx
  have e8 := st8 v (St ns n3) a (.pv (.loc 0)) (.pv cols) s3 (.pv (encO (tv v b))) (.pv (encO (tv v b))) s9' (.pv v.d) (.pv (encB b)) x gx zx
  refine ⟨n3, .pv v.d, .pv (encO (tv v b)), .pv (encO (tv v b)), .pv (encC x), .pv (encT (walkC v x)), s9', .pv v.d, .pv (encB b), ?_⟩
  rw [sqS_cons, e0, seqK_nx, sqS_cons, e1, seqK_nx, sqS_cons, e2, seqK_nx, sqS_cons, e3, seqK_nx, sqS_cons, e4, seqK_nx, sqS_cons, e5, seqK_nx, sqS_cons, e6, seqK_nx, sqS_cons, e7, seqK_nx, sqS_cons, e8, seqK_nx, sqS_nil]
theorem turns_ok (ns : List Int) (h : ns.length ≤ 63) (a : Lk.Slot) : ∀ (xs : List Val) (n : Int) (s2 s3 s4 s5 s6 s7 s8 s9 s10 s11 : Lk.Slot), colsS s2 → ∃ (n' : Int) (ρ' : Lk.Env), forL (fun x => asg (.nm 3) (.fz x)) (sqS [q0, q1, q2, q3, q4, q5, q6, q7, q8] (callN prog 29)) xs [a, .pv (.loc 0), s2, s3, s4, s5, s6, s7, s8, s9, s10, s11] (St ns n) = .ok .nx ρ' (St ns n')
  | [], n, _, _, _, _, _, _, _, _, _, _, _ => ⟨n, _, rfl⟩
  | x :: xs, n, s2, s3, s4, s5, s6, s7, s8, s9, s10, s11, hs => by
    obtain ⟨n1, t4, t5, t6, t7, t8, t9, t10, t11, e⟩ := turn_ok ns h n a s2 (.pv x) s4 s5 s6 s7 s8 s9 s10 s11 hs
    obtain ⟨n2, ρ', e2⟩ := turns_ok ns h a xs n1 (.pv cols) (.pv x) t4 t5 t6 t7 t8 t9 t10 t11 (.inl rfl)
    refine ⟨n2, ρ', ?_⟩
    rw [forL_cons]
    show bndK (asg (.nm 3) (.fz x) _ _) _ = _
    have e0 : asg (.nm 3) (.fz x) [a, .pv (.loc 0), s2, s3, s4, s5, s6, s7, s8, s9, s10, s11] (St ns n) = .ok () [a, .pv (.loc 0), s2, .pv x, s4, s5, s6, s7, s8, s9, s10, s11] (St ns n) := by simp
    rw [e0, bndK_ok, e, forK_nx, e2]
theorem law_ok (ns : List Int) (h : ns.length ≤ 63) : ∃ S', callN prog 30 12 [.lst (ns.map .int)] [] = .ok (.fz (.bl true)) S' := by
  obtain ⟨n', ρ', e⟩ := turns_ok ns h (.pv (.lst (ns.map .int))) (rangeL 0 12) 0 (.ol [.tup [.str "k", .str "text"], .tup [.str "x", .str "number"], .tup [.str "y", .str "number"]]) .unb .unb .unb .unb .unb .unb .unb .unb .unb (.inr rfl)
  refine ⟨St ns n', call_rt (d := 29) (F := F12) rfl rfl ⟨ρ', ?_⟩⟩
  have c12 : (12 : Nat) ≤ cap := by unfold cap; omega
  have c2 : (2 : Nat) ≤ cap := by unfold cap; omega
  have c3 : (3 : Nat) ≤ cap := by unfold cap; omega
  have hB : B12 = sqS [setE 1 true (lstE [(nmE 0), (csE (.int 0))]), setE 2 false (lstE [(tupE [(csE (.str "k")), (csE (.str "text"))]), (tupE [(csE (.str "x")), (csE (.str "number"))]), (tupE [(csE (.str "y")), (csE (.str "number"))])]), forE (app [.ex (vE (csE (.int 12)))] rangeV) (.nm 3) (sqS [q0, q1, q2, q3, q4, q5, q6, q7, q8]), retE (csE (.bl true))] := rfl
  rw [body12, hB]
  have hs : startE F12.N [Val.lst (ns.map .int)] = [.pv (.lst (ns.map .int)), .unb, .unb, .unb, .unb, .unb, .unb, .unb, .unb, .unb, .unb, .unb] := rfl
  rw [hs]
  have s0 : setE 1 true (lstE [(nmE 0), (csE (.int 0))]) (callN prog 29) [.pv (.lst (ns.map .int)), .unb, .unb, .unb, .unb, .unb, .unb, .unb, .unb, .unb, .unb, .unb] [] = .ok .nx [.pv (.lst (ns.map .int)), .pv (.loc 0), .unb, .unb, .unb, .unb, .unb, .unb, .unb, .unb, .unb, .unb] (St ns 0) := by
    simp [c2, newLoc]
  have s1 : ∀ S, setE 2 false (lstE [(tupE [(csE (.str "k")), (csE (.str "text"))]), (tupE [(csE (.str "x")), (csE (.str "number"))]), (tupE [(csE (.str "y")), (csE (.str "number"))])]) (callN prog 29) [.pv (.lst (ns.map .int)), .pv (.loc 0), .unb, .unb, .unb, .unb, .unb, .unb, .unb, .unb, .unb, .unb] S = .ok .nx [.pv (.lst (ns.map .int)), .pv (.loc 0), .ol [.tup [.str "k", .str "text"], .tup [.str "x", .str "number"], .tup [.str "y", .str "number"]], .unb, .unb, .unb, .unb, .unb, .unb, .unb, .unb, .unb] S := fun S => by
    simp [c2, c3]
  have s2 : ∀ (L : Caller → M Lk.Flow) ρ S, forE (app [.ex (vE (csE (.int 12)))] rangeV) (.nm 3) L (callN prog 29) ρ S = forL (fun x => asg (.nm 3) (.fz x)) (L (callN prog 29)) (rangeL 0 12) ρ S := fun L ρ S => by
    rw [forE_ap]
    simp only [app_ap, pres_cons, pres_nil, pre_ex, vE_ap, csE_ap, bndK_ok, ret_ap, bnd_ap, val_fz]
    simp only [posts, Opd.post, view_int, rangeV, Option.bind, Option.map]
    simp [small62, c12]
  rw [sqS_cons, s0, seqK_nx, sqS_cons, s1, seqK_nx, sqS_cons, s2, e, seqK_nx]
  simp
end Law05
end

theorem PySem.Challenge.cw_likeframes_k05_whole_conditions_holds : PySem.Challenge.rw_likeframes_k05_whole_conditions.Holds := by
  exact Law05.holds Law05.law_ok
