import PyProof.Rows.All
import Wide.All
import OpenK.AllK
import Wide.FinOn
import HandS.ForMost
import HandS.Wide
import HandS.Flow
import HandS.Star
import HandS.Zip
import HandS.Conv
import HandS.TupAny
import HandS.IsInst
import KE.SortData
import KE.SortKeyHeap
import KE.DataCmp
import KE.DataEq
import KE.DataAny
import KE.DataMinMax
import KE.DataFind
import KE.DataIsa
import PyProof.ReprRoads
import HandS.Lambda
import HandS.Base
import HandS.ExcOwn
import HandS.EndTab
import HandS.ExcInit
import HandS.NestedK
import KE.KExcSuper
import HandS.ExcIs
import HandS.ExcField
import HandS.TupMul
import HandS.SetFor
import HandS.TupSets
import PySem.Challenge.RW_leastthatfails_k11_whole_lots_that_cross
section
set_option Elab.async false
set_option linter.all false
set_option maxRecDepth 100000
/-! The little interpreter: Python's pure part over plain values; a list that a frame owns is the value of its slot. -/
namespace Py
open PySem

abbrev D := PyData

/-- a slot of a frame: unset, a value that nobody writes any more, a list of its own that may be written -/
inductive Sl where
  | no | val (d : D) | own (ds : List D)

/-- what an expression gives: a value, a new list that nobody else has, the value of a slot -/
inductive R where
  | dt (d : D) | new (ds : List D) | sl (i : Nat)

abbrev Fr := List Sl

inductive Out (α : Type) where
  | ok (a : α) (ρ : Fr) | ex (C : Nat) (d : D) | no

def Out.bind {α β : Type} (o : Out α) (f : α → Fr → Out β) : Out β := match o with
  | .ok a ρ => f a ρ
  | .ex C d => .ex C d
  | .no => .no
@[simp] theorem Out.bind_ex {α β : Type} (C : Nat) (d : D) (f : α → Fr → Out β) : (Out.ex C d : Out α).bind f = .ex C d := rfl
@[simp] theorem Out.bind_ok {α β : Type} (a : α) (ρ : Fr) (f : α → Fr → Out β) : (Out.ok a ρ).bind f = f a ρ := rfl
@[simp] theorem Out.bind_no {α β : Type} (f : α → Fr → Out β) : (Out.no : Out α).bind f = .no := rfl

/-- as bind; an error has no meaning -/
def Out.bindN {α β : Type} (o : Out α) (f : α → Fr → Out β) : Out β := match o with
  | .ok a ρ => f a ρ
  | .ex _ _ => .no
  | .no => .no
@[simp] theorem Out.bindN_ex {α β : Type} (C : Nat) (d : D) (f : α → Fr → Out β) : (Out.ex C d : Out α).bindN f = .no := rfl
@[simp] theorem Out.bindN_ok {α β : Type} (a : α) (ρ : Fr) (f : α → Fr → Out β) : (Out.ok a ρ).bindN f = f a ρ := rfl
@[simp] theorem Out.bindN_no {α β : Type} (f : α → Fr → Out β) : (Out.no : Out α).bindN f = .no := rfl

def ask {α : Type} (o : Option α) (ρ : Fr) : Out α := match o with
  | some a => .ok a ρ
  | none => .no
@[simp] theorem ask_some {α : Type} (a : α) (ρ : Fr) : ask (some a) ρ = .ok a ρ := rfl
@[simp] theorem ask_none {α : Type} (ρ : Fr) : ask (none : Option α) ρ = .no := rfl

/-- a slot read as a value, without giving it away -/
def Sl.look : Sl → Option D
  | .no => none
  | .val d => some d
  | .own ds => some (.list ds)

/-- a result read as a value -/
def R.look (ρ : Fr) : R → Option D
  | .dt d => some d
  | .new ds => some (.list ds)
  | .sl i => (ρ[i]?).bind Sl.look

/-- a result given away: what it is from now on is a value -/
def R.esc (r : R) (ρ : Fr) : Out D := match r with
  | .dt d => .ok d ρ
  | .new ds => .ok (.list ds) ρ
  | .sl i => match ρ[i]? with
    | some (.val d) => .ok d ρ
    | some (.own ds) => .ok (.list ds) (ρ.set i (.val (.list ds)))
    | _ => .no

/-- an error of the class at C with a value; a def as a value -/
def exD (C : Nat) (d : D) : D := .dict [(.none, .int C), (.none, d)]
def fnD (a : Nat) : D := .dict [(.none, .int a)]
mutual
/-- without errors, defs, dicts in it -/
def okD : D → Bool
  | .dict _ => false
  | .tuple ds => okL ds
  | .list ds => okL ds
  | _ => true
def okL : List D → Bool
  | [] => true
  | d :: ds => okD d && okL ds
end
/-- the values that the machine's laws of data speak of -/
def fine (d : D) : Bool := d.plain && d.canLay0 && decide (d.depth ≤ 50) && okD d

/-- truth -/
def truthD : D → Option Bool
  | .none => some false
  | .bool b => some b
  | .int i => some (i != 0)
  | .str x => if x.length ≤ sizeLine then some (x.length != 0) else none
  | .tuple ds => some (!ds.isEmpty)
  | .list ds => some (!ds.isEmpty)
  | .dict _ => none

/-- what a loop over a value gives -/
def itemsD : D → Option (List D)
  | .tuple ds => some ds
  | .list ds => some ds
  | _ => none

def lenD : D → Option Nat
  | .tuple ds => some ds.length
  | .list ds => some ds.length
  | .str x => if x.length ≤ sizeLine then some x.length else none
  | _ => none

/-- an index from either end -/
def atD (ds : List D) (i : Int) : Option D := L2.atI ds i

/-- ints: bools are none here -/
def intD : D → Option Int
  | .int i => some i
  | _ => none

def binop (op : Operator) (a b : D) : Option R := match op, a, b with
  | .Add, .int i, .int j => some (.dt (.int (i + j)))
  | .Sub, .int i, .int j => some (.dt (.int (i - j)))
  | .Mult, .int i, .int j => if i.natAbs.log2 + j.natAbs.log2 < 1000000 then some (.dt (.int (i * j))) else none
  | .FloorDiv, .int i, .int j => if 0 < j ∧ j.natAbs.log2 < 9000 then some (.dt (.int (i / j))) else none
  | .Mod, .int i, .int j => if 0 < j then some (.dt (.int (i % j))) else none
  | .Pow, .int i, .int j => if 0 ≤ j ∧ (Builtin.Int.intBits i : Int) * j ≤ 2 ^ 27 then some (.dt (.int (i ^ j.toNat))) else none
  | .Add, .tuple xs, .tuple ys => if xs.length + ys.length ≤ sizeLine then some (.dt (.tuple (xs ++ ys))) else none
  | .Add, .list xs, .list ys => if xs.length + ys.length ≤ sizeLine then some (.new (xs ++ ys)) else none
  | .Add, .str x, .str y => if x.length + y.length ≤ sizeLine then some (.dt (.str (x ++ y))) else none
  | _, _, _ => none

def isNon : D → Bool
  | .none => true
  | _ => false
def cmpop (op : CmpOp) (a b : D) : Option Bool := match op with
  | .Eq => if fine a && fine b then some (PyData.eqv a b) else none
  | .NotEq => if fine a && fine b then some (!PyData.eqv a b) else none
  | .Lt => if W.alike a b && (fine a && fine b) && !(isNon a) then some (W.dataLt a b) else none
  | .Gt => if W.alike a b && (fine a && fine b) && !(isNon a) then some (W.dataLt b a) else none
  | .LtE => if W.alike a b && (fine a && fine b) && !(isNon a) then some (!W.dataLt b a) else none
  | .GtE => if W.alike a b && (fine a && fine b) && !(isNon a) then some (!W.dataLt a b) else none
  | .In => match itemsD b with
    | some ds => if fine a && fine b then some (ds.any fun z => PyData.eqv z a) else none
    | none => none
  | .NotIn => match itemsD b with
    | some ds => if fine a && fine b then some (!ds.any fun z => PyData.eqv z a) else none
    | none => none
  | .Is => match b with
    | .none => some (isNon a)
    | _ => none
  | .IsNot => match b with
    | .none => some (!(isNon a))
    | _ => none
end Py
end
section
set_option Elab.async false
set_option linter.all false
set_option maxRecDepth 100000
/-! Terms of the little interpreter, what they stand for, what they mean. -/
namespace Py
open PySem

/-- built-ins of one argument, of two -/
inductive B1 where
  | len | all | any | sorted | tuple | list | max | min | sum | abs | int
  deriving DecidableEq
inductive B2 where
  | max | min
  deriving DecidableEq
def B1.name : B1 → Str
  | .len => "len" | .all => "all" | .any => "any" | .sorted => "sorted" | .tuple => "tuple" | .list => "list" | .max => "max" | .min => "min" | .sum => "sum" | .abs => "abs" | .int => "int"
def B2.name : B2 → Str
  | .max => "max" | .min => "min"

/-- what isinstance asks -/
inductive Ty where
  | int | bool | str | tuple | list
  deriving DecidableEq
def Ty.name : Ty → Str
  | .int => "int" | .bool => "bool" | .str => "str" | .tuple => "tuple" | .list => "list"
def Ty.has : Ty → D → Bool
  | .int, .int _ => true
  | .int, .bool _ => true
  | .bool, .bool _ => true
  | .str, .str _ => true
  | .tuple, .tuple _ => true
  | .list, .list _ => true
  | _, _ => false

/-- a target: a name with its slot, a row of names -/
inductive Tg where
  | nm (i : Nat) (x : Str) (p : Pos)
  | row (ts : List (Nat × Str × Pos)) (k : Nat) (p : Pos)
def Tg.toX : Tg → Expr
  | .nm _ x p => .Name x p
  | .row ts k p => .Tuple (ts.map fun t => .Name t.2.1 t.2.2) k p
def setRow : List (Nat × Str × Pos) → List D → Fr → Option Fr
  | [], [], ρ => some ρ
  | t :: ts, d :: ds, ρ => setRow ts ds (ρ.set t.1 (.val d))
  | _, _, _ => none
def Tg.put : Tg → D → Fr → Option Fr
  | .nm i _ _, d, ρ => some (ρ.set i (.val d))
  | .row ts _ _, .tuple ds, ρ => setRow ts ds ρ
  | .row _ _ _, _, _ => none
def Tg.slots : Tg → List Nat
  | .nm i _ _ => [i]
  | .row ts _ _ => ts.map (·.1)

/-- no parameter -/
def arg0 : Arguments := ⟨[], [], none, [], [], none, []⟩
/-- one parameter -/
def arg1 (a : Str) (pa : Pos) : Arguments := ⟨[], [⟨a, none, pa⟩], none, [], [], none, []⟩
mutual
inductive E where
  | var (i : Nat) (x : Str) (p : Pos)
  | int (n : Int) (k : Nat) (p : Pos)
  | bl (b : Bool) (k : Nat) (p : Pos)
  | non (k : Nat) (p : Pos)
  | str (s : Str) (k : Nat) (p : Pos)
  | glI (x : Str) (n : Int) (p : Pos)
  | bin (op : Operator) (a b : E) (p : Pos)
  | neg (a : E) (p : Pos)
  | nt (a : E) (p : Pos)
  | bo (c : Bool) (a : E) (r : Es) (p : Pos)
  | cmp (op : CmpOp) (a b : E) (p : Pos)
  | cmp2 (o1 o2 : CmpOp) (a b c : E) (p : Pos)
  | ife (c a b : E) (p : Pos)
  | tup (es : Es) (k : Nat) (p : Pos)
  | lst (es : Es) (p : Pos)
  | call (f : Nat) (x : Str) (px : Pos) (es : Es) (p : Pos)
  | b1 (b : B1) (px : Pos) (a : E) (p : Pos)
  | b2 (b : B2) (px : Pos) (a c : E) (p : Pos)
  | isi (px : Pos) (a : E) (t : Ty) (pt : Pos) (p : Pos)
  | lrng (pl pr : Pos) (a : E) (pi p : Pos)
  | sset (ps : Pos) (pt : Pos) (a : E) (pi : Pos) (p : Pos)
  | skey (px : Pos) (a : E) (pk : Pos) (f : Nat) (x : Str) (pf : Pos) (p : Pos)
  | slam (px : Pos) (a : E) (pk : Pos) (i : Nat) (x : Str) (pa : Pos) (b : E) (sc : Scope) (pl : Pos) (p : Pos)
  | app (i : Nat) (x : Str) (px pa : Pos) (a : E) (p : Pos)
  | ext (i : Nat) (x : Str) (px pa : Pos) (a : E) (p : Pos)
  | pop (i : Nat) (x : Str) (px pa : Pos) (a : E) (p : Pos)
  | idx (a b : E) (p : Pos)
  | slo (a lo : E) (ps p : Pos)
  | shi (a hi : E) (ps p : Pos)
  | comp (elt : E) (t : Tg) (src : Sr) (ifs : Option E) (sc : Scope) (own : List (Str × Nat)) (p : Pos)
  | fnv (x : Str) (a : Nat) (p : Pos)
  | callv (i : Nat) (x : Str) (px : Pos) (tb : List (Nat × Nat × Str)) (es : Es) (p : Pos)
  | isx (px : Pos) (a : E) (x : Str) (C : Nat) (pt p : Pos)
  | attr (Cs : List Nat) (a : E) (p : Pos)
  | rep (px : Pos) (a : E) (p : Pos)
  | rept (a b : E) (p : Pos)
  | trng (pl pr : Pos) (a : E) (pi p : Pos)
  | heard (Cs : List Nat) (px : Pos) (b : E) (sc : Scope) (pl p : Pos)
inductive Es where
  | nil
  | cons (a : E) (r : Es)
  | star (a : E) (p : Pos) (r : Es)
inductive Sr where
  | e (a : E)
  | rng (px : Pos) (a : E) (p : Pos)
  | zip (px : Pos) (a b : E) (p : Pos)
  | enm (px : Pos) (a : E) (p : Pos)
end

mutual
def E.toX : E → Expr
  | .var _ x p => .Name x p
  | .int n k p => .Constant (.int n) k p
  | .bl b k p => .Constant (.bool b) k p
  | .non k p => .Constant .none k p
  | .str s k p => .Constant (.str s) k p
  | .glI x _ p => .Name x p
  | .bin op a b p => .BinOp a.toX op b.toX p
  | .neg a p => .UnaryOp .USub a.toX p
  | .nt a p => .UnaryOp .Not a.toX p
  | .bo c a r p => .BoolOp (if c then .And else .Or) (a.toX :: r.toX) p
  | .cmp op a b p => .Compare a.toX [op] [b.toX] p
  | .cmp2 o1 o2 a b c p => .Compare a.toX [o1, o2] [b.toX, c.toX] p
  | .ife c a b p => .IfExp c.toX a.toX b.toX p
  | .tup es k p => .Tuple es.toX k p
  | .lst es p => .List es.toX p
  | .call _ x px es p => .Call (.Name x px) es.toX [] p
  | .b1 b px a p => .Call (.Name b.name px) [a.toX] [] p
  | .b2 b px a c p => .Call (.Name b.name px) [a.toX, c.toX] [] p
  | .isi px a t pt p => .Call (.Name "isinstance" px) [a.toX, .Name t.name pt] [] p
  | .lrng pl pr a pi p => .Call (.Name "list" pl) [.Call (.Name "range" pr) [a.toX] [] pi] [] p
  | .sset ps pt a pi p => .Call (.Name "sorted" ps) [.Call (.Name "set" pt) [a.toX] [] pi] [] p
  | .skey px a pk _ x pf p => .Call (.Name "sorted" px) [a.toX] [⟨some "key", .Name x pf, pk⟩] p
  | .slam px a pk _ x pa b sc pl p => .Call (.Name "sorted" px) [a.toX] [⟨some "key", .Lambda (arg1 x pa) b.toX sc pl, pk⟩] p
  | .app _ x px pa a p => .Call (.Attribute (.Name x px) "append" pa) [a.toX] [] p
  | .ext _ x px pa a p => .Call (.Attribute (.Name x px) "extend" pa) [a.toX] [] p
  | .pop _ x px pa a p => .Call (.Attribute (.Name x px) "pop" pa) [a.toX] [] p
  | .idx a b p => .Subscript a.toX b.toX p
  | .slo a lo ps p => .Subscript a.toX (.Slice (some lo.toX) none none ps) p
  | .shi a hi ps p => .Subscript a.toX (.Slice none (some hi.toX) none ps) p
  | .comp elt t src ifs sc _ p => .ListComp elt.toX [⟨t.toX, src.toX, (match ifs with | some c => [c.toX] | none => []), 0⟩] sc p
  | .fnv x _ p => .Name x p
  | .callv _ x px _ es p => .Call (.Name x px) es.toX [] p
  | .isx px a x _ pt p => .Call (.Name "isinstance" px) [a.toX, .Name x pt] [] p
  | .attr _ a p => .Attribute a.toX "value" p
  | .rep px a p => .Call (.Name "repr" px) [a.toX] [] p
  | .rept a b p => .BinOp a.toX .Mult b.toX p
  | .trng pl pr a pi p => .Call (.Name "tuple" pl) [.Call (.Name "range" pr) [a.toX] [] pi] [] p
  | .heard _ px b sc pl p => .Call (.Name "_law_heard" px) [.Lambda arg0 b.toX sc pl] [] p
def Es.toX : Es → List Expr
  | .nil => []
  | .cons a r => a.toX :: r.toX
  | .star a p r => .Starred a.toX p :: r.toX
def Sr.toX : Sr → Expr
  | .e a => a.toX
  | .rng px a p => .Call (.Name "range" px) [a.toX] [] p
  | .zip px a b p => .Call (.Name "zip" px) [a.toX, b.toX] [] p
  | .enm px a p => .Call (.Name "enumerate" px) [a.toX] [] p
end

mutual
inductive S where
  | asg (i : Nat) (x : Str) (px : Pos) (e : E) (p : Pos)
  | par (i : Nat) (x : Str) (px : Pos) (j : Nat) (y : Str) (py : Pos) (kt : Nat) (pt : Pos) (a b : E) (k2 : Nat) (p2 : Pos) (p : Pos)
  | unp (ts : List (Nat × Str × Pos)) (k : Nat) (pt : Pos) (e : E) (p : Pos)
  | six (i : Nat) (x : Str) (px : Pos) (ix : E) (ps : Pos) (e : E) (p : Pos)
  | ret (e : E) (p : Pos)
  | exp (e : E) (p : Pos)
  | iff (c : E) (a b : Ss) (p : Pos)
  | for_ (t : Tg) (src : Sr) (body : Ss) (p : Pos)
  | wh (c : E) (body : Ss) (p : Pos)
  | pass (p : Pos)
  | brk (p : Pos)
  | cont (p : Pos)
  | rse (x : Str) (C : Nat) (px : Pos) (e : E) (pc p : Pos)
  | nev (st : Stmt)
inductive Ss where
  | nil
  | cons (s : S) (r : Ss)
end
mutual
def S.toX : S → Stmt
  | .asg _ x px e p => .Assign [.Name x px] e.toX p
  | .par _ x px _ y py kt pt a b k2 p2 p => .Assign [.Tuple [.Name x px, .Name y py] kt pt] (.Tuple [a.toX, b.toX] k2 p2) p
  | .unp ts k pt e p => .Assign [(Tg.row ts k pt).toX] e.toX p
  | .six _ x px ix ps e p => .Assign [.Subscript (.Name x px) ix.toX ps] e.toX p
  | .ret e p => .Return (some e.toX) p
  | .exp e p => .Expr e.toX p
  | .iff c a b p => .If c.toX a.toX b.toX p
  | .for_ t src body p => .For t.toX src.toX body.toX [] p
  | .wh c body p => .While c.toX body.toX [] p
  | .pass p => .Pass p
  | .brk p => .Break p
  | .cont p => .Continue p
  | .rse x _ px e pc p => .Raise (some (.Call (.Name x px) [e.toX] [] pc)) none p
  | .nev st => st
def Ss.toX : Ss → List Stmt
  | .nil => []
  | .cons s r => s.toX :: r.toX
end
end Py
end
section
set_option Elab.async false
set_option linter.all false
set_option maxRecDepth 100000
/-! What terms mean. -/
namespace Py
open PySem

/-- what a call gives: its value, what its own lists handed in hold then -/
inductive CO where
  | ok (r : Sl) (outs : List Sl) | ex (C : Nat) (d : D) | no

/-- what is known of the defs: what a call of one gives; which parameters are its own lists handed in -/
structure Fx where
  call : Nat → List Sl → CO
  md : Nat → List Bool

/-- the arguments, handed over: their slots in the callee, where each own list comes from, the frame without those -/
def prep : List Bool → List R → Fr → Option (List Sl × List (Option Nat) × Fr)
  | [], [], ρ => some ([], [], ρ)
  | false :: ms, r :: rs, ρ => match r.esc ρ with
    | .ok d ρ' => (prep ms rs ρ').map fun (a, b, c) => (.val d :: a, b, c)
    | _ => none
  | true :: ms, .sl i :: rs, ρ => match ρ[i]? with
    | some (.own ds) => (prep ms rs (ρ.set i .no)).map fun (a, b, c) => (.own ds :: a, some i :: b, c)
    | _ => none
  | true :: ms, .new ds :: rs, ρ => (prep ms rs ρ).map fun (a, b, c) => (.own ds :: a, none :: b, c)
  | _, _, _ => none
def back : List (Option Nat) → List Sl → Fr → Option Fr
  | [], [], ρ => some ρ
  | some i :: is, o :: os, ρ => back is os (ρ.set i o)
  | none :: is, _ :: os, ρ => back is os ρ
  | _, _, _ => none
def ofSl : Sl → Option R
  | .val d => some (.dt d)
  | .own ds => some (.new ds)
  | .no => none
def callM (Φ : Fx) (f : Nat) (rs : List R) (ρ : Fr) : Out R :=
  match prep (Φ.md f) rs ρ with
  | some (args, from_, ρ1) => match Φ.call f args with
    | .ok r outs => match back from_ outs ρ1, ofSl r with
      | some ρ2, some r => .ok r ρ2
      | _, _ => .no
    | .ex C d => .ex C d
    | .no => .no
  | none => .no

def escs : List R → Fr → Out (List D)
  | [], ρ => .ok [] ρ
  | r :: rs, ρ => (r.esc ρ).bind fun d ρ => (escs rs ρ).bind fun ds ρ => .ok (d :: ds) ρ

def boolsD : List D → Option (List Bool)
  | [] => some []
  | .bool b :: r => (boolsD r).map (b :: ·)
  | _ => none
def intsD : List D → Option (List Int)
  | [] => some []
  | .int i :: r => (intsD r).map (i :: ·)
  | _ => none

def notNone : D → Bool
  | .none => false
  | _ => true
/-- may they be sorted: all alike, of one kind -/
def sortOk (ds : List D) : Bool :=
  (ds.all fun a => ds.all fun b => W.alike a b) && ds.all fine &&
    ((ds.all fun d => match d with | .tuple _ => true | _ => false) || (ds.all fun d => match d with | .none => false | .tuple _ => false | _ => true))
def sortD (ds : List D) : List D := ds.mergeSort (W.dataLe false id)
/-- the first of each -/
def setD (ds : List D) : List D := ds.foldl (fun acc d => if acc.any (fun e => PyData.eqv e d) then acc else acc ++ [d]) []

/-- what is put into a set: ints, or tuples of ints -/
def tupI : D → Bool
  | .tuple ds => (intsD ds).isSome
  | _ => false
def setOk (ds : List D) : Bool := decide (ds.length < 1000) && ((ds.all fun d => (intD d).isSome) || ds.all tupI)
def ssetM (d : D) : Option R := match itemsD d with
  | some ds => if sortOk ds && setOk ds then some (.new (sortD (setD ds))) else none
  | none => none
def b1M (b : B1) (d : D) : Option R := match b with
  | .len => (lenD d).map fun (n : Nat) => R.dt (PyData.int (n : Int))
  | .all => match d with | .list ds => (boolsD ds).map fun bs => .dt (.bool (bs.all id)) | _ => none
  | .any => match d with | .list ds => (boolsD ds).map fun bs => .dt (.bool (bs.any id)) | _ => none
  | .sorted => match itemsD d with | some ds => if sortOk ds then some (.new (sortD ds)) else none | none => none
  | .tuple => match itemsD d with | some ds => some (.dt (.tuple ds)) | none => none
  | .list => match itemsD d with | some ds => some (.new ds) | none => none
  | .max => match d with
    | .list ds => match intsD ds with | some (i :: r) => some (.dt (.int (r.foldl max i))) | _ => none
    | _ => none
  | .min => match d with
    | .list ds => match intsD ds with | some (i :: r) => some (.dt (.int (r.foldl min i))) | _ => none
    | _ => none
  | .sum => match d with | .list ds => (intsD ds).map fun is => .dt (.int is.sum) | _ => none
  | .abs => match d with | .int i => some (.dt (.int i.natAbs)) | _ => none
  | .int => match d with | .int i => some (.dt (.int i)) | .bool b => some (.dt (.int (if b then 1 else 0))) | _ => none
def b2M (b : B2) (x y : D) : Option R := match b, x, y with
  | .max, .int i, .int j => some (.dt (.int (if j > i then j else i)))
  | .min, .int i, .int j => some (.dt (.int (if j < i then j else i)))
  | _, _, _ => none

def idxM (a b : D) : Option R := match a, b with
  | .tuple ds, .int i => (atD ds i).map .dt
  | .list ds, .int i => (atD ds i).map .dt
  | _, _ => none
def cutD (ds : List D) (lo hi : Option Int) : List D := (ds.drop (HT.sIx ds.length 0 lo)).take (HT.sIx ds.length ds.length hi - HT.sIx ds.length 0 lo)
def slcM (a : D) (lo hi : Option Int) : Option R := match a with
  | .tuple ds => some (.dt (.tuple (cutD ds lo hi)))
  | .list ds => some (.new (cutD ds lo hi))
  | _ => none

def plainSlots (is : List Nat) (ρ : Fr) : Bool := is.all fun i => match ρ[i]? with | some (.own _) => false | some _ => true | none => false
def wipeF (ρ : Fr) : List Nat → Fr
  | [] => ρ
  | i :: is => (wipeF ρ is).set i .no
def unwipe (old ρ : Fr) : List Nat → Fr
  | [] => ρ
  | i :: is => (unwipe old ρ is).set i (old.getD i .no)
/-- the turns of a comprehension: what it has made, the frame -/
def compLoop (slots : List Nat) (put : D → Fr → Option Fr) (tst : Fr → Out Bool) (elt : Fr → Out D) : List D → List D → Fr → Out (List D)
  | [], acc, ρ => .ok acc ρ
  | d :: ds, acc, ρ => match put d (wipeF ρ slots) with
    | none => .no
    | some ρ1 => (tst ρ1).bindN fun b ρ2 => if b then (elt ρ2).bindN fun y ρ3 => if acc.length < sizeLine then compLoop slots put tst elt ds (acc ++ [y]) ρ3 else .no
        else compLoop slots put tst elt ds acc ρ2
def compM (slots : List Nat) (src : Out (List D)) (put : D → Fr → Option Fr) (tst : Fr → Out Bool) (elt : Fr → Out D) : Out R :=
  src.bind fun ds ρ => if plainSlots slots ρ then (compLoop slots put tst elt ds [] ρ).bind fun ys ρ' => .ok (.new ys) (unwipe ρ (wipeF ρ' slots) slots) else .no

def lookM (o : Out R) : Out D := o.bind fun r ρ => ask (r.look ρ) ρ
def escM (o : Out R) : Out D := o.bind fun r ρ => r.esc ρ

def isOwn (ρ : Fr) (i : Nat) : Bool := match ρ[i]? with | some (.own _) => true | _ => false
def appM (i : Nat) (d : D) (ρ : Fr) : Out R := match ρ[i]? with
  | some (.own ds) => if ds.length < sizeLine then .ok (.dt .none) (ρ.set i (.own (ds ++ [d]))) else .no
  | _ => .no
def extM (i : Nat) (d : D) (ρ : Fr) : Out R := match ρ[i]?, d with
  | some (.own ds), .list es => if ds.length + es.length ≤ sizeLine then .ok (.dt .none) (ρ.set i (.own (ds ++ es))) else .no
  | _, _ => .no
def popM (i : Nat) (d : D) (ρ : Fr) : Out R := match ρ[i]?, d with
  | some (.own ds), .int k => if -(2 ^ 63) ≤ k ∧ k < 2 ^ 63 then match seqIndex? k ds.length with
      | some j => match ds[j]? with | some y => .ok (.dt y) (ρ.set i (.own (ds.eraseIdx j))) | none => .no
      | none => .no
    else .no
  | _, _ => .no
/-- the keys of a sort, one by one -/
def keyLoop (g : D → Fr → Out D) : List D → Fr → Out (List D)
  | [], ρ => .ok [] ρ
  | d :: ds, ρ => (g d ρ).bindN fun k ρ => (keyLoop g ds ρ).bind fun ks ρ => .ok (k :: ks) ρ
def byKeys (ks ds : List D) : List D := ((ks.zip ds).mergeSort fun a b => W.dataLe false id a.1 b.1).map (·.2)
def skeyM (ks ds : List D) : Option R := if sortOk ks then some (.new (byKeys ks ds)) else none
/-- a lambda's key: its parameter's slot set, then as it was -/
def lamM (i : Nat) (me : Fr → Out D) (d : D) (ρ : Fr) : Out D := if plainSlots [i] ρ then (me (ρ.set i (.val d))).bind fun k ρ' => .ok k (ρ'.set i (ρ.getD i .no)) else .no
def keysM (g : D → Fr → Out D) (o : Out D) : Out R := o.bind fun d ρ => match itemsD d with
  | some ds => (keyLoop g ds ρ).bind fun ks ρ => ask (skeyM ks ds) ρ
  | none => .no

/-- list(range(j)) -/
def lrngM : D → Option R
  | .int j => if -(2 ^ 62) ≤ j ∧ j < 2 ^ 62 ∧ j.toNat ≤ 2 ^ 24 then some (.new ((List.range j.toNat).map fun (i : Nat) => .int i)) else none
  | _ => none
def varM (i : Nat) (ρ : Fr) : Out R := match ρ[i]? with
  | some .no => .no
  | some _ => .ok (.sl i) ρ
  | none => .no
def isiM (t : Ty) (d : D) : Option R := if d.plain && okD d then some (.dt (.bool (t.has d))) else none
def boolR (o : Out Bool) : Out R := o.bind fun b ρ => .ok (.dt (.bool b)) ρ
def tstV (o : Out R) : Out Bool := o.bind fun x ρ => ask ((x.look ρ).bind truthD) ρ
def cmp2M (o1 o2 : CmpOp) (ma mb mc : Fr → Out R) (ρ : Fr) : Out Bool :=
  (ma ρ).bind fun x ρ => (mb ρ).bind fun y ρ => match (x.look ρ).bind fun x => (y.look ρ).bind fun y => cmpop o1 x y with
    | some true => (mc ρ).bind fun z ρ => ask ((y.look ρ).bind fun y => (z.look ρ).bind fun z => cmpop o2 y z) ρ
    | some false => .ok false ρ
    | none => .no
/-- a def's place in a value; an error's class and value -/
def fnA : D → Option Nat
  | .dict [(.none, .int n)] => some n.toNat
  | _ => none
def isxM (C : Nat) : D → Option R
  | .dict [(.none, .int c), (.none, _)] => if c = (C : Int) then some (.dt (.bool true)) else none
  | _ => none
def attrM (Cs : List Nat) : D → Option R
  | .dict [(.none, .int c), (.none, d)] => if Cs.any (fun C => decide (c = (C : Int))) then some (.dt d) else none
  | _ => none
/-- what repr is asked of -/
def showOk (d : D) : Bool := okD d && d.showable && !d.hasDict && decide (d.depth ≤ 40) && decide (d.shown.length ≤ sizeLine)
def repM (d : D) : Option R := if showOk d then some (.dt (.str d.shown)) else none
def reptM : D → D → Option R
  | .tuple xs, .int k => if xs ≠ [] ∧ 2 ≤ k ∧ k ≤ 1000 ∧ xs.length ≤ 1000 then some (.dt (.tuple (List.replicate k.toNat xs).flatten)) else none
  | _, _ => none
def trngM : D → Option R
  | .int j => if -(2 ^ 62) ≤ j ∧ j < 2 ^ 62 ∧ j.toNat ≤ 2 ^ 24 then some (.dt (.tuple ((List.range j.toNat).map fun (i : Nat) => .int i))) else none
  | _ => none
/-- the frame as a lambda that is handed on sees it: lists of its own are out of reach -/
def hideF (ρ : Fr) : Fr := ρ.map fun s => match s with | .own _ => .no | s => s
def heardM (Cs : List Nat) (m : Fr → Out R) (ρ : Fr) : Out R := match m (hideF ρ) with
  | .ok r ρ' => match r.esc ρ' with
    | .ok d _ => .ok (.dt (.tuple [.none, d])) ρ
    | _ => .no
  | .ex C d => if Cs.contains C then .ok (.dt (.tuple [exD C d, .none])) ρ else .no
  | .no => .no
def enumD (ds : List D) : List D := ((List.range ds.length).zip ds).map fun p => .tuple [.int (p.1 : Nat), p.2]
mutual
def ev (Φ : Fx) : E → Fr → Out R
  | .var i _ _, ρ => varM i ρ
  | .int n _ _, ρ => .ok (.dt (.int n)) ρ
  | .bl b _ _, ρ => .ok (.dt (.bool b)) ρ
  | .non _ _, ρ => .ok (.dt .none) ρ
  | .str s _ _, ρ => .ok (.dt (.str s)) ρ
  | .glI _ n _, ρ => .ok (.dt (.int n)) ρ
  | .bin op a b _, ρ => (ev Φ a ρ).bind fun x ρ => (ev Φ b ρ).bind fun y ρ => ask ((x.look ρ).bind fun x => (y.look ρ).bind fun y => binop op x y) ρ
  | .neg a _, ρ => (ev Φ a ρ).bind fun x ρ => match x.look ρ with | some (.int i) => .ok (.dt (.int (-i))) ρ | _ => .no
  | .nt a p, ρ => (ev Φ a ρ).bind fun x ρ => ask (((x.look ρ).bind truthD).map fun b => .dt (.bool (!b))) ρ
  | .bo c a r _, ρ => (ev Φ a ρ).bind fun x ρ => evBo Φ c r x ρ
  | .cmp op a b _, ρ => (ev Φ a ρ).bind fun x ρ => (ev Φ b ρ).bind fun y ρ => ask ((x.look ρ).bind fun x => (y.look ρ).bind fun y => (cmpop op x y).map fun b => .dt (.bool b)) ρ
  | .cmp2 o1 o2 a b c _, ρ => boolR (cmp2M o1 o2 (ev Φ a) (ev Φ b) (ev Φ c) ρ)
  | .ife c a b _, ρ => (tst Φ c ρ).bind fun k ρ => if k then ev Φ a ρ else ev Φ b ρ
  | .tup es _ _, ρ => (evs Φ es ρ).bind fun ds ρ => if ds.length ≤ sizeLine then .ok (.dt (.tuple ds)) ρ else .no
  | .lst es _, ρ => (evs Φ es ρ).bind fun ds ρ => if ds.length ≤ sizeLine then .ok (.new ds) ρ else .no
  | .call f _ _ es _, ρ => (evr Φ es ρ).bind fun rs ρ => callM Φ f rs ρ
  | .b1 b _ a _, ρ => (ev Φ a ρ).bind fun x ρ => ask ((x.look ρ).bind (b1M b)) ρ
  | .b2 b _ a c _, ρ => (ev Φ a ρ).bind fun x ρ => (ev Φ c ρ).bind fun y ρ => ask ((x.look ρ).bind fun x => (y.look ρ).bind fun y => b2M b x y) ρ
  | .isi _ a t _ _, ρ => (ev Φ a ρ).bind fun x ρ => ask ((x.look ρ).bind (isiM t)) ρ
  | .lrng _ _ a _ _, ρ => (ev Φ a ρ).bind fun x ρ => ask ((x.look ρ).bind lrngM) ρ
  | .sset _ _ a _ _, ρ => (ev Φ a ρ).bind fun x ρ => ask ((x.look ρ).bind ssetM) ρ
  | .skey _ a _ f _ _ _, ρ => keysM (fun d ρ => escM (callM Φ f [.dt d] ρ)) (escM (ev Φ a ρ))
  | .slam _ a _ i _ _ b _ _ _, ρ => keysM (lamM i fun ρ => escM (ev Φ b ρ)) (escM (ev Φ a ρ))
  | .app i _ _ _ a _, ρ => if isOwn ρ i then (escM (ev Φ a ρ)).bind fun d ρ => appM i d ρ else .no
  | .ext i _ _ _ a _, ρ => if isOwn ρ i then (escM (ev Φ a ρ)).bind fun d ρ => extM i d ρ else .no
  | .pop i _ _ _ a _, ρ => if isOwn ρ i then (escM (ev Φ a ρ)).bind fun d ρ => popM i d ρ else .no
  | .idx a b _, ρ => (ev Φ a ρ).bind fun x ρ => (ev Φ b ρ).bind fun y ρ => ask ((x.look ρ).bind fun x => (y.look ρ).bind fun y => idxM x y) ρ
  | .slo a lo _ _, ρ => (ev Φ a ρ).bind fun x ρ => (ev Φ lo ρ).bind fun y ρ => ask ((x.look ρ).bind fun x => (y.look ρ).bind fun y => match y with | .int i => slcM x (some i) none | _ => none) ρ
  | .shi a hi _ _, ρ => (ev Φ a ρ).bind fun x ρ => (ev Φ hi ρ).bind fun y ρ => ask ((x.look ρ).bind fun x => (y.look ρ).bind fun y => match y with | .int i => slcM x none (some i) | _ => none) ρ
  | .comp elt t src ifs _ own _, ρ => compM (own.map (·.2)) (evSr Φ src ρ) t.put (fun ρ => match ifs with | some c => tst Φ c ρ | none => .ok true ρ) (fun ρ => escM (ev Φ elt ρ))
  | .fnv _ a _, ρ => .ok (.dt (fnD a)) ρ
  | .callv i _ _ tb es _, ρ => match ρ[i]? with
    | some (.val d) => match (fnA d).bind fun a => tb.find? fun e => e.1 == a with
      | some e => (evr Φ es ρ).bind fun rs ρ => callM Φ e.2.1 rs ρ
      | none => .no
    | _ => .no
  | .isx _ a _ C _ _, ρ => (ev Φ a ρ).bind fun x ρ => ask ((x.look ρ).bind (isxM C)) ρ
  | .attr Cs a _, ρ => (ev Φ a ρ).bind fun x ρ => ask ((x.look ρ).bind (attrM Cs)) ρ
  | .rep _ a _, ρ => (ev Φ a ρ).bind fun x ρ => ask ((x.look ρ).bind repM) ρ
  | .rept a b _, ρ => (ev Φ a ρ).bind fun x ρ => (ev Φ b ρ).bind fun y ρ => ask ((x.look ρ).bind fun x => (y.look ρ).bind fun y => reptM x y) ρ
  | .trng _ _ a _ _, ρ => (ev Φ a ρ).bind fun x ρ => ask ((x.look ρ).bind trngM) ρ
  | .heard Cs _ b _ _ _, ρ => heardM Cs (fun ρ => ev Φ b ρ) ρ
def evBo (Φ : Fx) (c : Bool) : Es → R → Fr → Out R
  | .nil, x, ρ => .ok x ρ
  | .cons a r, x, ρ => match (x.look ρ).bind truthD with
    | some k => if k = c then (ev Φ a ρ).bind fun y ρ => evBo Φ c r y ρ else .ok x ρ
    | none => .no
  | .star .., _, _ => .no
/-- items of a display, a value each -/
def evs (Φ : Fx) : Es → Fr → Out (List D)
  | .nil, ρ => .ok [] ρ
  | .cons a r, ρ => (escM (ev Φ a ρ)).bind fun d ρ => (evs Φ r ρ).bind fun ds ρ => .ok (d :: ds) ρ
  | .star a _ r, ρ => (escM (ev Φ a ρ)).bind fun d ρ => match itemsD d with
    | some es => (evs Φ r ρ).bind fun ds ρ => .ok (es ++ ds) ρ
    | none => .no
/-- arguments -/
def evr (Φ : Fx) : Es → Fr → Out (List R)
  | .nil, ρ => .ok [] ρ
  | .cons a r, ρ => (ev Φ a ρ).bind fun x ρ => (evr Φ r ρ).bind fun xs ρ => .ok (x :: xs) ρ
  | .star .., _ => .no
/-- what a loop walks -/
def evSr (Φ : Fx) : Sr → Fr → Out (List D)
  | .e a, ρ => (escM (ev Φ a ρ)).bind fun d ρ => ask (itemsD d) ρ
  | .rng _ a _, ρ => (lookM (ev Φ a ρ)).bind fun d ρ => match d with
    | .int j => if -(2 ^ 62) ≤ j ∧ j < 2 ^ 62 then .ok ((List.range j.toNat).map fun (i : Nat) => .int i) ρ else .no
    | _ => .no
  | .zip _ a b _, ρ => (escM (ev Φ a ρ)).bind fun x ρ => (escM (ev Φ b ρ)).bind fun y ρ => match x, y with
    | .tuple xs, .tuple ys => .ok ((xs.zip ys).map fun p => .tuple [p.1, p.2]) ρ
    | .list xs, .list ys => .ok ((xs.zip ys).map fun p => .tuple [p.1, p.2]) ρ
    | _, _ => .no
  | .enm _ a _, ρ => (escM (ev Φ a ρ)).bind fun d ρ => match d with
    | .list ds => .ok (enumD ds) ρ
    | _ => .no
def tst (Φ : Fx) : E → Fr → Out Bool
  | .nt a _, ρ => (tst Φ a ρ).bind fun b ρ => .ok (!b) ρ
  | .bo c a r _, ρ => (tst Φ a ρ).bind fun k ρ => tstBo Φ c r k ρ
  | .cmp op a b _, ρ => (ev Φ a ρ).bind fun x ρ => (ev Φ b ρ).bind fun y ρ => ask ((x.look ρ).bind fun x => (y.look ρ).bind fun y => cmpop op x y) ρ
  | .cmp2 o1 o2 a b c _, ρ => cmp2M o1 o2 (ev Φ a) (ev Φ b) (ev Φ c) ρ
  | .var i _ _, ρ => tstV (varM i ρ)
  | .bl b _ _, ρ => tstV (.ok (.dt (.bool b)) ρ)
  | .call f _ _ es _, ρ => tstV ((evr Φ es ρ).bind fun rs ρ => callM Φ f rs ρ)
  | .b1 b _ a _, ρ => tstV ((ev Φ a ρ).bind fun x ρ => ask ((x.look ρ).bind (b1M b)) ρ)
  | .isi _ a t _ _, ρ => tstV ((ev Φ a ρ).bind fun x ρ => ask ((x.look ρ).bind (isiM t)) ρ)
  | .isx _ a _ C _ _, ρ => tstV ((ev Φ a ρ).bind fun x ρ => ask ((x.look ρ).bind (isxM C)) ρ)
  | _, _ => .no
def tstBo (Φ : Fx) (c : Bool) : Es → Bool → Fr → Out Bool
  | .nil, k, ρ => .ok k ρ
  | .cons a r, k, ρ => if k = c then (tst Φ a ρ).bind fun k ρ => tstBo Φ c r k ρ else .ok k ρ
  | .star .., _, _ => .no
end

inductive SO where
  | nx (ρ : Fr) | rt (r : R) (ρ : Fr) | bk (ρ : Fr) | ct (ρ : Fr) | ex (C : Nat) (d : D) | no
def SO.thn (o : SO) (f : Fr → SO) : SO := match o with
  | .nx ρ => f ρ
  | o => o
def Out.toS {α : Type} (o : Out α) (f : α → Fr → SO) : SO := match o with
  | .ok a ρ => f a ρ
  | .ex C d => .ex C d
  | .no => .no
@[simp] theorem SO.thn_ex (C : Nat) (d : D) (f : Fr → SO) : (SO.ex C d).thn f = .ex C d := rfl
@[simp] theorem SO.thn_nx (ρ : Fr) (f : Fr → SO) : (SO.nx ρ).thn f = f ρ := rfl
@[simp] theorem SO.thn_rt (r : R) (ρ : Fr) (f : Fr → SO) : (SO.rt r ρ).thn f = .rt r ρ := rfl
@[simp] theorem SO.thn_bk (ρ : Fr) (f : Fr → SO) : (SO.bk ρ).thn f = .bk ρ := rfl
@[simp] theorem SO.thn_ct (ρ : Fr) (f : Fr → SO) : (SO.ct ρ).thn f = .ct ρ := rfl
@[simp] theorem SO.thn_no (f : Fr → SO) : (SO.no).thn f = .no := rfl
@[simp] theorem Out.toS_ok {α : Type} (a : α) (ρ : Fr) (f : α → Fr → SO) : (Out.ok a ρ).toS f = f a ρ := rfl
@[simp] theorem Out.toS_ex {α : Type} (C : Nat) (d : D) (f : α → Fr → SO) : (Out.ex C d : Out α).toS f = .ex C d := rfl
@[simp] theorem Out.toS_no {α : Type} (f : α → Fr → SO) : (Out.no : Out α).toS f = .no := rfl

/-- a result put into a slot -/
def putR (io : List Nat) (i : Nat) (r : R) (ρ : Fr) : Option Fr :=
  if io.contains i then none else match r with
  | .dt d => some (ρ.set i (.val d))
  | .new ds => some (ρ.set i (.own ds))
  | .sl j => match (R.sl j).esc ρ with
    | .ok d ρ' => some (ρ'.set i (.val d))
    | _ => none
def optS (o : Option Fr) : SO := match o with
  | some ρ => .nx ρ
  | none => .no
@[simp] theorem optS_some (ρ : Fr) : optS (some ρ) = .nx ρ := rfl
def sixM (i : Nat) (k d : D) (ρ : Fr) : Option Fr := match ρ[i]?, k with
  | some (.own ds), .int n => match L2.ixN ds.length n with
    | some j => some (ρ.set i (.own (ds.set j d)))
    | none => none
  | _, _ => none
def forLoop (put : D → Fr → Option Fr) (body : Fr → SO) : List D → Fr → SO
  | [], ρ => .nx ρ
  | d :: ds, ρ => match put d ρ with
    | none => .no
    | some ρ1 => match body ρ1 with
      | .nx ρ2 => forLoop put body ds ρ2
      | .ct ρ2 => forLoop put body ds ρ2
      | .bk ρ2 => .nx ρ2
      | o => o
def whLoop (c : Fr → Out Bool) (body : Fr → SO) : Nat → Fr → SO
  | 0, _ => .no
  | n + 1, ρ => match c ρ with
    | .no => .no
    | .ex C d => .ex C d
    | .ok false ρ1 => .nx ρ1
    | .ok true ρ1 => match body ρ1 with
      | .nx ρ2 => whLoop c body n ρ2
      | .ct ρ2 => whLoop c body n ρ2
      | .bk ρ2 => .nx ρ2
      | o => o
/-- turns of a while at most -/
def turns : Nat := 100000

mutual
def evS (Φ : Fx) (io : List Nat) : S → Fr → SO
  | .asg i _ _ e _, ρ => (ev Φ e ρ).toS fun r ρ => optS (putR io i r ρ)
  | .par i _ _ j _ _ _ _ a b _ _ _, ρ => (ev Φ a ρ).toS fun r ρ => (ev Φ b ρ).toS fun q ρ => match r, q with
    | .sl _, _ => .no
    | _, .sl _ => .no
    | r, q => if i = j then .no else optS ((putR io i r ρ).bind fun ρ => putR io j q ρ)
  | .unp ts _ _ e _, ρ => (escM (ev Φ e ρ)).toS fun d ρ => if ts.any (fun t => io.contains t.1) then .no else match d with
    | .tuple ds => optS (setRow ts ds ρ)
    | _ => .no
  | .six i _ _ ix _ e _, ρ => (escM (ev Φ e ρ)).toS fun d ρ => if isOwn ρ i then (escM (ev Φ ix ρ)).toS fun k ρ => optS (sixM i k d ρ) else .no
  | .ret e _, ρ => (ev Φ e ρ).toS fun r ρ => .rt r ρ
  | .exp e _, ρ => (ev Φ e ρ).toS fun _ ρ => .nx ρ
  | .iff c a b _, ρ => (tst Φ c ρ).toS fun k ρ => if k then evSs Φ io a ρ else evSs Φ io b ρ
  | .for_ t src body _, ρ => if t.slots.any io.contains then .no else (evSr Φ src ρ).toS fun ds ρ => forLoop t.put (evSs Φ io body) ds ρ
  | .wh c body _, ρ => whLoop (tst Φ c) (evSs Φ io body) turns ρ
  | .pass _, ρ => .nx ρ
  | .brk _, ρ => .bk ρ
  | .cont _, ρ => .ct ρ
  | .rse _ C _ e _ _, ρ => (escM (ev Φ e ρ)).toS fun d _ => .ex C d
  | .nev _, _ => .no
def evSs (Φ : Fx) (io : List Nat) : Ss → Fr → SO
  | .nil, ρ => .nx ρ
  | .cons s r, ρ => (evS Φ io s ρ).thn (evSs Φ io r)
end

structure Fn where
  np : Nat
  nn : Nat
  md : List Bool
  body : Ss
def ioOf : Nat → List Bool → List Nat
  | _, [] => []
  | i, true :: r => i :: ioOf (i + 1) r
  | i, false :: r => ioOf (i + 1) r
def outsOf (io : List Nat) (ρ : Fr) : List Sl := io.map fun i => ρ.getD i .no
def exitM (io : List Nat) (r : R) (ρ : Fr) : CO := match r with
  | .dt d => .ok (.val d) (outsOf io ρ)
  | .new ds => .ok (.own ds) (outsOf io ρ)
  | .sl i => match ρ[i]? with
    | some (.val d) => .ok (.val d) (outsOf io ρ)
    | some (.own ds) => if io.contains i then .ok (.val (.list ds)) (outsOf io (ρ.set i (.val (.list ds)))) else .ok (.own ds) (outsOf io ρ)
    | _ => .no
def runFn (Φ : Fx) (fn : Fn) (args : List Sl) : CO :=
  if args.length = fn.np then match evSs Φ (ioOf 0 fn.md) fn.body (args ++ List.replicate (fn.nn - fn.np) .no) with
    | .rt r ρ => exitM (ioOf 0 fn.md) r ρ
    | .nx ρ => exitM (ioOf 0 fn.md) (.dt .none) ρ
    | .ex C d => if fn.md.all (!·) then .ex C d else .no
    | _ => .no
  else .no
def fxOf (P : Nat → Option Fn) (c : Nat → List Sl → CO) : Fx := ⟨c, fun f => match P f with | some fn => fn.md | none => []⟩
def callN (P : Nat → Option Fn) : Nat → Nat → List Sl → CO
  | 0, _, _ => .no
  | n + 1, f, args => match P f with
    | some fn => runFn (fxOf P (callN P n)) fn args
    | none => .no
end Py
end
section
set_option Elab.async false
set_option linter.all false
set_option autoImplicit false
set_option maxRecDepth 100000
/-! The frame of the little interpreter against the machine's: what stands where, who may write it. -/
namespace Py
open PySem PySem.Spec PyProof.Rows L2

/-- a list of the module that nobody writes -/
def KL (K : W.Frag) (a : Addr) (vs : List V) : Prop := ∃ (its : Array Value) (n : Nat), K.lookup a = some { cls := .type "list", dict := none, data := .seq its n, slots := #[] } ∧ its.size ≤ sizeLine ∧ Vals vs its.toList
/-- a list told by the heap, or of the module -/
def LsR (K : W.Frag) (H : Hp) (a : Addr) (vs : List V) : Prop := Rd H a (.lst vs) ∨ KL K a vs
theorem LsR.seq {K : W.Frag} {H : Hp} {a : Addr} {vs : List V} (h : LsR K H a vs) : SqL K H a vs := by
  rcases h with h | ⟨its, n, h1, h2, h3⟩
  · exact .inl h
  · exact .inr ⟨_, its, n, h1, rfl, rfl, rfl, h2, h3⟩
theorem LsR.at {X : Cx} {pins : List (Addr × Obj)} {σ : L2.St} {H : Hp} {s : Shared} (I : Inv X pins σ H s) {a : Addr} {vs : List V} (h : LsR X.K H a vs) : vs.length ≤ sizeLine ∧ ∃ (its : List Value) (n : Nat), Vals vs its ∧ s.heap.get? a = some { cls := .type "list", data := .seq its.toArray n } := by
  rcases h with h | ⟨its, n, h1, h2, h3⟩
  · exact h.ok I.hok
  · have e := I.kIn _ _ h1
    refine ⟨by rw [h3.length, Array.length_toList]; exact h2, its.toList, n, h3, ?_⟩
    rw [Array.toArray_toList]
    exact e
/-- at a: an error of the class cls, its dict at d -/
def exv (a : Addr) (cls : Value) (d : Option Addr) : HO := .ext fun h => ∃ ob, h.get? a = some ob ∧ Zc cls d ob ∧ ∃ ws, ob.data = .fields ws
mutual
inductive RelD (K : W.Frag) (N : Addr → Prop) (H : Hp) : D → V → Prop
  | non : RelD K N H .none .non
  | bl (b : Bool) : RelD K N H (.bool b) (.bl b)
  | int (i : Int) : RelD K N H (.int i) (.int i)
  | str (x : Str) : RelD K N H (.str x) (.str x)
  | tup {a : Addr} {vs : List V} {ds : List D} : SqT K H a vs → RelL K N H ds vs → RelD K N H (.tuple ds) (.ref a)
  | lst {a : Addr} {vs : List V} {ds : List D} : Rd H a (.lst vs) → ¬ N a → RelL K N H ds vs → RelD K N H (.list ds) (.ref a)
  | lstK {a : Addr} {vs : List V} {ds : List D} : KL K a vs → RelL K N H ds vs → RelD K N H (.list ds) (.ref a)
  | exc {a dx : Addr} {C : Nat} {d : D} {v : V} : H a = some (exv a (.ref C) (some dx)) → H dx = some (.xd [("value", v)]) → RelD K N H d v → RelD K N H (.dict [(.none, .int C), (.none, d)]) (.ref a)
  | fn (a : Addr) : RelD K N H (.dict [(.none, .int (a : Nat))]) (.ref a)
inductive RelL (K : W.Frag) (N : Addr → Prop) (H : Hp) : List D → List V → Prop
  | nil : RelL K N H [] []
  | cons {d : D} {ds : List D} {v : V} {vs : List V} : RelD K N H d v → RelL K N H ds vs → RelL K N H (d :: ds) (v :: vs)
end

section
variable {K : W.Frag} {N N' Wr : Addr → Prop} {H H' : Hp}
/-- told as something else than a table of code objects -/
abbrev Nt (o : HO) : Prop := ∀ ps, o ≠ .tbl ps
def Old (H : Hp) (a : Addr) : Prop := ∃ o, H a = some o ∧ Nt o
theorem old_none {H : Hp} {a : Addr} (h : H a = none) : ¬ Old H a := fun ⟨o, e, _⟩ => by rw [h] at e; cases e
theorem nt_lst (vs : List V) : Nt (.lst vs) := fun _ e => nomatch e
theorem nt_tup (vs : List V) : Nt (.tup vs) := fun _ e => nomatch e
theorem nt_frz (o : Obj) (u : HO) : Nt (.frz o u) := fun _ e => nomatch e
theorem rd_keep (h1 : ∀ a o, H a = some o → Nt o → ¬ Wr a → H' a = some o) {a : Addr} {u : HO} (hn : Nt u) (hw : ¬ Wr a) (h : Rd H a u) : Rd H' a u := by
  rcases h with h | ⟨o, h⟩
  · exact .inl (h1 _ _ h hn hw)
  · exact .inr ⟨o, h1 _ _ h (nt_frz _ _) hw⟩
mutual
theorem RelD.mono (h1 : ∀ a o, H a = some o → Nt o → ¬ Wr a → H' a = some o) (hW : ∀ a, Wr a → N a ∧ ∃ vs, H a = some (.lst vs)) (h2 : ∀ a, N' a → N a ∨ ¬ Old H a) :
    ∀ (d : D) (v : V), RelD K N H d v → RelD K N' H' d v
  | _, _, .non => .non
  | _, _, .bl b => .bl b
  | _, _, .int i => .int i
  | _, _, .str x => .str x
  | .tuple ds, .ref a, .tup (vs := vs) h r => by
    refine .tup ?_ (RelL.mono h1 hW h2 ds vs r)
    rcases h with h | h
    · refine .inl (rd_keep h1 (nt_tup _) (fun w => ?_) h)
      obtain ⟨_, xs, e⟩ := hW a w
      rcases h with h | ⟨o, h⟩
      · rw [e] at h; cases h
      · rw [e] at h; cases h
    · exact .inr h
  | .list ds, .ref a, .lst (vs := vs) h n r => by
    refine .lst (rd_keep h1 (nt_lst _) (fun w => n (hW a w).1) h) (fun q => ?_) (RelL.mono h1 hW h2 ds vs r)
    rcases h2 a q with q | q
    · exact n q
    · rcases h with h | ⟨o, h⟩
      · exact q ⟨_, h, nt_lst _⟩
      · exact q ⟨_, h, nt_frz _ _⟩
  | .list ds, .ref a, .lstK (vs := vs) h r => .lstK h (RelL.mono h1 hW h2 ds vs r)
  | .dict [(.none, .int _), (.none, d)], .ref a, .exc (v := v) (dx := dx) e1 e2 r => .exc
      (h1 _ _ e1 (fun _ z => by unfold exv at z; cases z) fun w => by obtain ⟨_, xs, q⟩ := hW a w; rw [e1] at q; unfold exv at q; cases q)
      (h1 _ _ e2 (fun _ z => by cases z) fun w => by obtain ⟨_, xs, q⟩ := hW dx w; rw [e2] at q; cases q) (RelD.mono h1 hW h2 d v r)
  | _, _, .fn a => .fn a
theorem RelL.mono (h1 : ∀ a o, H a = some o → Nt o → ¬ Wr a → H' a = some o) (hW : ∀ a, Wr a → N a ∧ ∃ vs, H a = some (.lst vs)) (h2 : ∀ a, N' a → N a ∨ ¬ Old H a) :
    ∀ (ds : List D) (vs : List V), RelL K N H ds vs → RelL K N' H' ds vs
  | _, _, .nil => .nil
  | d :: ds, v :: vs, .cons r t => .cons (RelD.mono h1 hW h2 d v r) (RelL.mono h1 hW h2 ds vs t)
end
theorem RelD.sub (h2 : ∀ a, N' a → N a) {d : D} {v : V} (r : RelD K N H d v) : RelD K N' H d v :=
  RelD.mono (Wr := fun _ => False) (fun _ _ e _ _ => e) (fun _ w => w.elim) (fun a q => .inl (h2 a q)) d v r
theorem RelL.sub (h2 : ∀ a, N' a → N a) {d : List D} {v : List V} (r : RelL K N H d v) : RelL K N' H d v :=
  RelL.mono (Wr := fun _ => False) (fun _ _ e _ _ => e) (fun _ w => w.elim) (fun a q => .inl (h2 a q)) d v r
theorem RelL.length : ∀ {ds : List D} {vs : List V}, RelL K N H ds vs → ds.length = vs.length
  | _, _, .nil => rfl
  | _, _, .cons _ t => congrArg (· + 1) t.length
theorem RelL.get : ∀ {ds : List D} {vs : List V} {i : Nat} {d : D}, RelL K N H ds vs → ds[i]? = some d → ∃ v, vs[i]? = some v ∧ RelD K N H d v
  | _, _, _, _, .nil, e => by simp at e
  | _, _, 0, _, .cons r _, e => by simp at e; subst e; exact ⟨_, rfl, r⟩
  | _, _, i + 1, _, .cons _ t, e => by
    obtain ⟨v, h1, h2⟩ := RelL.get (i := i) t (by simpa using e)
    exact ⟨v, by simpa using h1, h2⟩
theorem RelL.app : ∀ {ds es : List D} {vs ws : List V}, RelL K N H ds vs → RelL K N H es ws → RelL K N H (ds ++ es) (vs ++ ws)
  | _, _, _, _, .nil, s => s
  | _, _, _, _, .cons r t, s => .cons r (t.app s)
theorem RelL.drop : ∀ {ds : List D} {vs : List V} (n : Nat), RelL K N H ds vs → RelL K N H (ds.drop n) (vs.drop n)
  | _, _, 0, r => by simpa using r
  | _, _, _ + 1, .nil => .nil
  | _, _, n + 1, .cons _ t => by simpa using t.drop n
theorem RelL.take : ∀ {ds : List D} {vs : List V} (n : Nat), RelL K N H ds vs → RelL K N H (ds.take n) (vs.take n)
  | _, _, 0, _ => by simp; exact .nil
  | _, _, _ + 1, .nil => by simp; exact .nil
  | _, _, n + 1, .cons r t => by simpa using RelL.cons r (t.take n)
theorem RelL.set {d : D} {v : V} (q : RelD K N H d v) : ∀ {ds : List D} {vs : List V} (n : Nat), RelL K N H ds vs → RelL K N H (ds.set n d) (vs.set n v)
  | _, _, _, .nil => by simp; exact .nil
  | _, _, 0, .cons r t => by simpa using RelL.cons q t
  | _, _, n + 1, .cons r t => by simpa using RelL.cons r (t.set q n)
theorem RelL.erase : ∀ {ds : List D} {vs : List V} (n : Nat), RelL K N H ds vs → RelL K N H (ds.eraseIdx n) (vs.eraseIdx n)
  | _, _, _, .nil => by simp; exact .nil
  | _, _, 0, .cons r t => by simpa using t
  | _, _, n + 1, .cons r t => by simpa using RelL.cons r (t.erase n)
mutual
/-- as the machine's laws of data read it -/
theorem RelD.dp : ∀ (d : D) (v : V), okD d = true → RelD K N H d v → Dp K H v d
  | _, _, _, .non => .non
  | _, _, _, .bl b => .bl b
  | _, _, _, .int i => .int i
  | _, _, _, .str x => .str x
  | .tuple ds, .ref a, ho, .tup (vs := vs) h r => .tup h (RelL.dp ds vs (by simpa [okD] using ho) r)
  | .list ds, .ref a, ho, .lst (vs := vs) h n r => .lst (.inl h) (RelL.dp ds vs (by simpa [okD] using ho) r)
  | .list ds, .ref a, ho, .lstK (vs := vs) h r => .lst (LsR.seq (.inr h)) (RelL.dp ds vs (by simpa [okD] using ho) r)
theorem RelL.dp : ∀ (ds : List D) (vs : List V), okL ds = true → RelL K N H ds vs → DpAll K H vs ds
  | _, _, _, .nil => .nil
  | d :: ds, v :: vs, ho, .cons r t => .cons (RelD.dp d v (by simp only [okL, Bool.and_eq_true] at ho; exact ho.1) r) (RelL.dp ds vs (by simp only [okL, Bool.and_eq_true] at ho; exact ho.2) t)
end

/-- read, without regard to who may write it at the top -/
inductive RelT (K : W.Frag) (N : Addr → Prop) (H : Hp) : D → V → Prop
  | dt {d : D} {v : V} : RelD K N H d v → RelT K N H d v
  | own {a : Addr} {vs : List V} {ds : List D} : H a = some (.lst vs) → RelL K N H ds vs → RelT K N H (.list ds) (.ref a)
theorem RelT.dp {d : D} {v : V} (ho : okD d = true) (r : RelT K N H d v) : Dp K H v d := by
  cases r with
  | dt r => exact RelD.dp _ _ ho r
  | own h r => exact .lst (.inl (.inl h)) (RelL.dp _ _ (by simpa [okD] using ho) r)
theorem RelT.int {i : Int} {v : V} (r : RelT K N H (.int i) v) : v = .int i := by
  cases r with | dt r => cases r; rfl
theorem RelT.bool {b : Bool} {v : V} (r : RelT K N H (.bool b) v) : v = .bl b := by
  cases r with | dt r => cases r; rfl
theorem RelT.str {x : Str} {v : V} (r : RelT K N H (.str x) v) : v = .str x := by
  cases r with | dt r => cases r; rfl
theorem RelT.non {v : V} (r : RelT K N H .none v) : v = .non := by
  cases r with | dt r => cases r; rfl
theorem RelT.list {ds : List D} {v : V} (r : RelT K N H (.list ds) v) : ∃ a vs, v = .ref a ∧ LsR K H a vs ∧ RelL K N H ds vs := by
  cases r with
  | dt r => cases r with
    | lst h n r => exact ⟨_, _, rfl, .inl h, r⟩
    | lstK h r => exact ⟨_, _, rfl, .inr h, r⟩
  | own h r => exact ⟨_, _, rfl, .inl (.inl h), r⟩
theorem RelT.tuple {ds : List D} {v : V} (r : RelT K N H (.tuple ds) v) : ∃ a vs, v = .ref a ∧ SqT K H a vs ∧ RelL K N H ds vs := by
  cases r with | dt r => cases r with | tup h r => exact ⟨_, _, rfl, h, r⟩
end

/-! ### entries -/
abbrev Ent := Sl × Option V
def Owns (p : Ent) (a : Addr) : Prop := (∃ ds, p.1 = .own ds) ∧ p.2 = some (.ref a)
def NN (B : Addr → Prop) (P : List Ent) (a : Addr) : Prop := (∃ p ∈ P, Owns p a) ∨ B a
structure SimP (K : W.Frag) (B : Addr → Prop) (P : List Ent) (H : Hp) : Prop where
  val : ∀ p ∈ P, ∀ d, p.1 = .val d → ∃ v, p.2 = some v ∧ RelD K (NN B P) H d v
  own : ∀ p ∈ P, ∀ ds, p.1 = .own ds → ∃ a vs, p.2 = some (.ref a) ∧ H a = some (.lst vs) ∧ RelL K (NN B P) H ds vs ∧ ¬ B a
  inj : P.Pairwise fun p q => ∀ a, Owns p a → ¬ Owns q a

section
variable {K : W.Frag} {B : Addr → Prop} {P P' : List Ent} {H H' : Hp} {p : Ent} {a : Addr} {d : D} {ds es : List D} {v : V} {vs ws : List V}
theorem NN.perm (h : P.Perm P') (a : Addr) (q : NN B P a) : NN B P' a := q.imp (fun ⟨p, hp, o⟩ => ⟨p, h.mem_iff.mp hp, o⟩) id
theorem SimP.perm (s : SimP K B P H) (h : P.Perm P') : SimP K B P' H where
  val := fun p hp d e => let ⟨v, e2, r⟩ := s.val p (h.mem_iff.mpr hp) d e; ⟨v, e2, r.sub (NN.perm h.symm)⟩
  own := fun p hp ds e => let ⟨a, vs, e1, e2, r, b⟩ := s.own p (h.mem_iff.mpr hp) ds e; ⟨a, vs, e1, e2, r.sub (NN.perm h.symm), b⟩
  inj := (h.pairwise_iff (fun {p q} f a x y => f a y x)).mp s.inj
theorem SimP.sublist (s : SimP K B P H) (h : P'.Sublist P) : SimP K B P' H where
  val := fun p hp d e => let ⟨v, e2, r⟩ := s.val p (h.subset hp) d e; ⟨v, e2, r.sub fun a q => q.imp (fun ⟨p, hp, o⟩ => ⟨p, h.subset hp, o⟩) id⟩
  own := fun p hp ds e => let ⟨a, vs, e1, e2, r, b⟩ := s.own p (h.subset hp) ds e; ⟨a, vs, e1, e2, r.sub fun a q => q.imp (fun ⟨p, hp, o⟩ => ⟨p, h.subset hp, o⟩) id, b⟩
  inj := s.inj.sublist h
theorem SimP.tail (s : SimP K B (p :: P) H) : SimP K B P H := s.sublist (List.sublist_cons_self _ _)
/-- the heap grows -/
theorem SimP.grow (s : SimP K B P H) (h : ∀ a o, H a = some o → Nt o → H' a = some o) : SimP K B P H' where
  val := fun p hp d e => let ⟨v, e2, r⟩ := s.val p hp d e; ⟨v, e2, RelD.mono (Wr := fun _ => False) (fun _ _ e n _ => h _ _ e n) (fun _ w => w.elim) (fun _ q => .inl q) _ _ r⟩
  own := fun p hp ds e => let ⟨a, vs, e1, e2, r, b⟩ := s.own p hp ds e; ⟨a, vs, e1, h _ _ e2 (nt_lst _), RelL.mono (Wr := fun _ => False) (fun _ _ e n _ => h _ _ e n) (fun _ w => w.elim) (fun _ q => .inl q) _ _ r, b⟩
  inj := s.inj
theorem NN.cons_val {s : Sl} (hs : ∀ ds, s ≠ .own ds) {o : Option V} (a : Addr) : NN B ((s, o) :: P) a ↔ NN B P a := by
  constructor
  · rintro (⟨p, hp, ⟨ds, e⟩, e2⟩ | q)
    · rcases List.mem_cons.mp hp with rfl | hp
      · exact absurd e (hs ds)
      · exact .inl ⟨p, hp, ⟨ds, e⟩, e2⟩
    · exact .inr q
  · rintro (⟨p, hp, o⟩ | q)
    · exact .inl ⟨p, List.mem_cons_of_mem _ hp, o⟩
    · exact .inr q
theorem SimP.push_val (s : SimP K B P H) (r : RelD K (NN B P) H d v) : SimP K B ((.val d, some v) :: P) H := by
  have hN : ∀ a, NN B ((.val d, some v) :: P) a → NN B P a := fun a => (NN.cons_val (fun _ e => by cases e) a).mp
  refine ⟨fun p hp d' e => ?_, fun p hp ds e => ?_, List.pairwise_cons.mpr ⟨fun q _ a o => ?_, s.inj⟩⟩
  · rcases List.mem_cons.mp hp with rfl | hp
    · cases e; exact ⟨v, rfl, r.sub hN⟩
    · obtain ⟨v', e2, r'⟩ := s.val p hp d' e; exact ⟨v', e2, r'.sub hN⟩
  · rcases List.mem_cons.mp hp with rfl | hp
    · cases e
    · obtain ⟨a, vs, e1, e2, r', b⟩ := s.own p hp ds e; exact ⟨a, vs, e1, e2, r'.sub hN, b⟩
  · obtain ⟨⟨ds, e⟩, _⟩ := o; cases e
theorem SimP.push_no (s : SimP K B P H) (o : Option V) : SimP K B ((.no, o) :: P) H := by
  have hN : ∀ a, NN B ((.no, o) :: P) a → NN B P a := fun a => (NN.cons_val (fun _ e => by cases e) a).mp
  refine ⟨fun p hp d' e => ?_, fun p hp ds e => ?_, List.pairwise_cons.mpr ⟨fun q _ a o => ?_, s.inj⟩⟩
  · rcases List.mem_cons.mp hp with rfl | hp
    · cases e
    · obtain ⟨v', e2, r'⟩ := s.val p hp d' e; exact ⟨v', e2, r'.sub hN⟩
  · rcases List.mem_cons.mp hp with rfl | hp
    · cases e
    · obtain ⟨a, vs, e1, e2, r', b⟩ := s.own p hp ds e; exact ⟨a, vs, e1, e2, r'.sub hN, b⟩
  · obtain ⟨⟨ds, e⟩, _⟩ := o; cases e
theorem NN.cons_own (b : Addr) : NN B ((.own ds, some (.ref a)) :: P) b ↔ b = a ∨ NN B P b := by
  constructor
  · rintro (⟨p, hp, ⟨ds, e⟩, e2⟩ | q)
    · rcases List.mem_cons.mp hp with rfl | hp
      · cases e2; exact .inl rfl
      · exact .inr (.inl ⟨p, hp, ⟨ds, e⟩, e2⟩)
    · exact .inr (.inr q)
  · rintro (rfl | ⟨p, hp, o⟩ | q)
    · exact .inl ⟨_, List.mem_cons_self, ⟨_, rfl⟩, rfl⟩
    · exact .inl ⟨p, List.mem_cons_of_mem _ hp, o⟩
    · exact .inr q
/-- a new list, its maker's own -/
theorem SimP.push_own (s : SimP K B P H) (ha : H a = none) (hb : ¬ B a) (r : RelL K (NN B P) H ds vs) : SimP K B ((.own ds, some (.ref a)) :: P) (upd H a (.lst vs)) := by
  have h1 : ∀ b o, H b = some o → Nt o → ¬ (fun _ : Addr => False) b → upd H a (.lst vs) b = some o := fun b o e _ _ => by rw [upd_ne (ne_of_none e ha)]; exact e
  have h2 : ∀ b, NN B ((.own ds, some (.ref a)) :: P) b → NN B P b ∨ ¬ Old H b := fun b q => by
    rcases (NN.cons_own b).mp q with rfl | q
    · exact .inr (old_none ha)
    · exact .inl q
  refine ⟨fun p hp d' e => ?_, fun p hp ds' e => ?_, List.pairwise_cons.mpr ⟨fun q hq b o o' => ?_, s.inj⟩⟩
  · rcases List.mem_cons.mp hp with rfl | hp
    · cases e
    · obtain ⟨v', e2, r'⟩ := s.val p hp d' e; exact ⟨v', e2, RelD.mono h1 (fun _ w => w.elim) h2 _ _ r'⟩
  · rcases List.mem_cons.mp hp with rfl | hp
    · cases e; exact ⟨a, vs, rfl, upd_same, RelL.mono h1 (fun _ w => w.elim) h2 _ _ r, hb⟩
    · obtain ⟨b, ws, e1, e2, r', nb⟩ := s.own p hp ds' e; exact ⟨b, ws, e1, h1 _ _ e2 (nt_lst _) (fun z => z), RelL.mono h1 (fun _ w => w.elim) h2 _ _ r', nb⟩
  · obtain ⟨_, e⟩ := o; cases e
    obtain ⟨⟨ds', e'⟩, e2⟩ := o'
    obtain ⟨b, ws, e1, e3, _⟩ := s.own q hq ds' e'
    rw [e2] at e1; cases e1
    rw [ha] at e3; cases e3
/-- given away -/
theorem SimP.freeze (s : SimP K B ((.own ds, some v) :: P) H) : SimP K B ((.val (.list ds), some v) :: P) H := by
  obtain ⟨a, vs, e1, e2, r, nb⟩ := s.own _ List.mem_cons_self ds rfl
  have e1 : some v = some (V.ref a) := e1
  cases e1
  have hin := List.pairwise_cons.mp s.inj
  refine s.tail.push_val (.lst (.inl e2) (fun q => ?_) (r.sub fun b q => (NN.cons_own b).mpr (.inr q)))
  rcases q with ⟨p, hp, o⟩ | q
  · exact hin.1 p hp a ⟨⟨_, rfl⟩, rfl⟩ o
  · exact nb q
/-- written by its owner -/
theorem SimP.write (s : SimP K B ((.own ds, some (.ref a)) :: P) H) (r : RelL K (NN B ((.own ds, some (.ref a)) :: P)) H es ws) : SimP K B ((.own es, some (.ref a)) :: P) (upd H a (.lst ws)) := by
  obtain ⟨a', vs, e1, e2, _, nb⟩ := s.own _ List.mem_cons_self ds rfl
  have e1 : some (V.ref a) = some (V.ref a') := e1
  cases e1
  have hin := List.pairwise_cons.mp s.inj
  have h1 : ∀ b o, H b = some o → Nt o → ¬ (fun b : Addr => b = a) b → upd H a (.lst ws) b = some o := fun b o e _ w => by rw [upd_ne w]; exact e
  have hW : ∀ b, b = a → NN B ((.own ds, some (.ref a)) :: P) b ∧ ∃ vs, H b = some (.lst vs) := fun b e => by subst e; exact ⟨(NN.cons_own _).mpr (.inl rfl), vs, e2⟩
  have h2 : ∀ b, NN B ((.own es, some (.ref a)) :: P) b → NN B ((.own ds, some (.ref a)) :: P) b ∨ ¬ Old H b := fun b q => .inl ((NN.cons_own b).mpr ((NN.cons_own b).mp q))
  refine ⟨fun p hp d' e => ?_, fun p hp ds' e => ?_, List.pairwise_cons.mpr ⟨fun q hq b o o' => ?_, hin.2⟩⟩
  · rcases List.mem_cons.mp hp with rfl | hp
    · cases e
    · obtain ⟨v', e3, r'⟩ := s.val p (List.mem_cons_of_mem _ hp) d' e; exact ⟨v', e3, RelD.mono h1 hW h2 _ _ r'⟩
  · rcases List.mem_cons.mp hp with rfl | hp
    · cases e; exact ⟨a, ws, rfl, upd_same, RelL.mono h1 hW h2 _ _ r, nb⟩
    · obtain ⟨b, zs, e3, e4, r', nb'⟩ := s.own p (List.mem_cons_of_mem _ hp) ds' e
      have nba : b ≠ a := fun z => hin.1 p hp a ⟨⟨_, rfl⟩, rfl⟩ ⟨⟨_, e⟩, z ▸ e3⟩
      exact ⟨b, zs, e3, h1 _ _ e4 (nt_lst _) nba, RelL.mono h1 hW h2 _ _ r', nb'⟩
  · obtain ⟨_, e⟩ := o; cases e
    exact hin.1 q hq a ⟨⟨_, rfl⟩, rfl⟩ o'
end
end Py
end
section
set_option Elab.async false
set_option linter.all false
set_option autoImplicit false
set_option maxRecDepth 100000
/-! The state of a running def against its frame; readings of terms. -/
namespace Py
open PySem PySem.Spec PyProof.Rows L2

/-- what is fixed while a def runs: the heap at its entry, the lists handed in to be written, the lists that others own, where the handed ones stand -/
structure TTs where
  ts : List (Addr × Str)
  E : XK
structure Gh (tt : TTs) where
  H0 : Hp
  A : Addr → Prop
  B : Addr → Prop
  io : List (Nat × V)

structure Sim {tt : TTs} (K : W.Frag) (G : Gh tt) (ρ : Fr) (hs : List Ent) (σ : L2.St) (H : Hp) : Prop where
  len : ρ.length = σ.length
  sp : SimP K G.B (ρ.zip σ ++ hs) H
  frm : ∀ a o, G.H0 a = some o → Nt o → ¬ G.A a → H a = some o
  trk : ∀ a, Old G.H0 a → Old H a
  ow : ∀ a, (∃ p ∈ ρ.zip σ ++ hs, Owns p a) → G.A a ∨ ¬ Old G.H0 a
  br : ∀ a, G.B a → Old G.H0 a ∧ ¬ G.A a
  tabs : LamX.Tabs tt.ts H
  io : ∀ p ∈ G.io, σ[p.1]? = some (some p.2)

abbrev NS {tt : TTs} (G : Gh tt) (ρ : Fr) (hs : List Ent) (σ : L2.St) : Addr → Prop := NN G.B (ρ.zip σ ++ hs)

theorem Old.keep {H H' : Hp} {b : Addr} (h : Old H b) (k : ∀ o, H b = some o → Nt o → H' b = some o) : Old H' b := h.elim fun o q => ⟨o, k o q.1 q.2, q.2⟩
theorem old_write {H : Hp} {a b : Addr} {ws : List V} (h : Old H b) : Old (upd H a (.lst ws)) b := by
  by_cases z : b = a
  · subst z; exact ⟨_, upd_same, nt_lst _⟩
  · exact h.keep fun o e _ => by rw [upd_ne z]; exact e
/-- a list is written: the tables stay -/
theorem tabs_write {tt : List (Addr × Str)} {H : Hp} {a : Addr} {vs ws : List V} (t : LamX.Tabs tt H) (h : H a = some (.lst vs)) : LamX.Tabs tt (upd H a (.lst ws)) := fun p hp => by
  obtain ⟨ps, h1, h2, h3⟩ := t p hp
  have e : ∀ b o, H b = some o → (∀ xs, o ≠ .lst xs) → upd H a (.lst ws) b = some o := fun b o e n => by
    have nb : b ≠ a := fun z => n vs (Option.some.inj (e.symm.trans (by rw [z]; exact h)))
    rw [upd_ne nb]; exact e
  refine ⟨ps, e _ _ h1 (fun _ z => nomatch z), h2, fun pos cv hc => ?_⟩
  obtain ⟨c, e1, e2⟩ := h3 pos cv hc
  exact ⟨c, e1, e _ _ e2 fun _ z => by unfold LamX.CodeO at z; cases z⟩

section
variable {K : W.Frag} {tt : TTs} {G : Gh tt} {ρ ρ' : Fr} {hs hs' : List Ent} {σ σ' : L2.St} {H H' : Hp} {p : Ent} {a : Addr} {d : D} {ds es : List D} {x v : V} {vs ws : List V} {i : Nat}
theorem Sim.nb (S : Sim K G ρ hs σ H) (h : H a = none) : ¬ G.B a := fun b => old_none h (S.trk a (S.br a b).1)
/-- the entries turned about, or fewer -/
theorem Sim.subperm (S : Sim K G ρ hs σ H) {P : List Ent} (h1 : P.Sublist (ρ.zip σ ++ hs)) (h2 : P.Perm (ρ'.zip σ' ++ hs')) (hl : ρ'.length = σ'.length) (hio : ∀ p ∈ G.io, σ'[p.1]? = some (some p.2)) : Sim K G ρ' hs' σ' H :=
  ⟨hl, (S.sp.sublist h1).perm h2, S.frm, S.trk, fun a ⟨p, hp, o⟩ => S.ow a ⟨p, h1.subset (h2.mem_iff.mpr hp), o⟩, S.br, S.tabs, hio⟩
theorem Sim.held (S : Sim K G ρ hs σ H) {h1 : List Ent} (hs1 : h1.Sublist hs) (hp : h1.Perm hs') : Sim K G ρ hs' σ H :=
  S.subperm (P := ρ.zip σ ++ h1) ((List.Sublist.refl _).append hs1) ((List.Perm.refl _).append hp) S.len S.io
theorem Sim.drop (S : Sim K G ρ (p :: hs) σ H) : Sim K G ρ hs σ H := S.held (List.sublist_cons_self _ _) (List.Perm.refl _)
theorem Sim.drops (S : Sim K G ρ (hs' ++ hs) σ H) : Sim K G ρ hs σ H := S.held (List.sublist_append_right _ _) (List.Perm.refl _)
theorem zip_held (ρ : Fr) (σ : L2.St) (p : Ent) (hs : List Ent) : (p :: (ρ.zip σ ++ hs)).Perm (ρ.zip σ ++ p :: hs) := (List.perm_middle).symm
theorem Sim.push_dt (S : Sim K G ρ hs σ H) (r : RelD K (NS G ρ hs σ) H d v) : Sim K G ρ ((.val d, some v) :: hs) σ H :=
  ⟨S.len, (S.sp.push_val r).perm (zip_held ..), S.frm, S.trk, fun a ⟨p, hp, o⟩ => by
    rcases List.mem_cons.mp ((zip_held ..).mem_iff.mpr hp) with rfl | hp
    · obtain ⟨⟨_, e⟩, _⟩ := o; cases e
    · exact S.ow a ⟨p, hp, o⟩, S.br, S.tabs, S.io⟩
theorem Sim.grow (S : Sim K G ρ hs σ H) {o : HO} (ha : H a = none) : Sim K G ρ hs σ (upd H a o) := by
  have k : ∀ b u, H b = some u → upd H a o b = some u := fun b u e => by rw [upd_ne (ne_of_none e ha)]; exact e
  refine ⟨S.len, S.sp.grow (fun b u e _ => k b u e), fun b u e t n => k b u (S.frm b u e t n), fun b e => (S.trk b e).keep fun o q _ => k b o q, S.ow, S.br, S.tabs.ext k, S.io⟩
theorem Sim.push_new (S : Sim K G ρ hs σ H) (ha : H a = none) (r : RelL K (NS G ρ hs σ) H ds vs) : Sim K G ρ ((.own ds, some (.ref a)) :: hs) σ (upd H a (.lst vs)) := by
  have g := S.grow (o := .lst vs) ha
  refine ⟨S.len, (S.sp.push_own ha (S.nb ha) r).perm (zip_held ..), g.frm, g.trk, fun b ⟨p, hp, o⟩ => ?_, S.br, g.tabs, S.io⟩
  rcases List.mem_cons.mp ((zip_held ..).mem_iff.mpr hp) with rfl | hp
  · obtain ⟨_, e⟩ := o; cases e; exact .inr fun o => old_none ha (S.trk _ o)
  · exact S.ow b ⟨p, hp, o⟩
theorem RelL.grow {N : Addr → Prop} {o : HO} (r : RelL K N H ds vs) (ha : H a = none) : RelL K N (upd H a o) ds vs :=
  RelL.mono (Wr := fun _ => False) (fun b u e _ _ => by rw [upd_ne (ne_of_none e ha)]; exact e) (fun _ w => w.elim) (fun _ q => .inl q) _ _ r
theorem RelD.grow {N : Addr → Prop} {o : HO} (r : RelD K N H d v) (ha : H a = none) : RelD K N (upd H a o) d v :=
  RelD.mono (Wr := fun _ => False) (fun b u e _ _ => by rw [upd_ne (ne_of_none e ha)]; exact e) (fun _ w => w.elim) (fun _ q => .inl q) _ _ r
theorem Sim.push_tup (S : Sim K G ρ hs σ H) (ha : H a = none) (r : RelL K (NS G ρ hs σ) H ds vs) : Sim K G ρ ((.val (.tuple ds), some (.ref a)) :: hs) σ (upd H a (.tup vs)) :=
  (S.grow ha).push_dt (.tup (.inl (.inl upd_same)) (r.grow ha))

/-! ### one slot -/
theorem perm_focus {α : Type} : ∀ {l : List α} {i : Nat} {y : α}, l[i]? = some y → l.Perm (y :: l.eraseIdx i)
  | [], _, _, h => by simp at h
  | a :: l, 0, y, h => by
    have e : a = y := by simpa using h
    subst e; simp
  | a :: l, i + 1, y, h => by
    have q := perm_focus (l := l) (i := i) (y := y) (by simpa using h)
    exact (q.cons a).trans (List.Perm.swap y a _)
theorem erase_set {α : Type} (l : List α) (i : Nat) (y : α) : (l.set i y).eraseIdx i = l.eraseIdx i := by
  rw [List.eraseIdx_set_eq]
theorem zip_set (ρ : Fr) (σ : L2.St) (i : Nat) (s : Sl) (o : Option V) : (ρ.set i s).zip (σ.set i o) = (ρ.zip σ).set i (s, o) := by
  induction ρ generalizing σ i with
  | nil => simp
  | cons a r ih =>
    cases σ with
    | nil => simp
    | cons b t => cases i with
      | zero => simp
      | succ i => simp [ih]
theorem set_self {α : Type} {l : List α} {i : Nat} {y : α} (h : l[i]? = some y) : l.set i y = l := by
  obtain ⟨hi, e⟩ := List.getElem?_eq_some_iff.mp h
  subst e
  exact List.set_getElem_self hi
theorem zip_at {s : Sl} {o : Option V} (h1 : ρ[i]? = some s) (h2 : σ[i]? = some o) : (ρ.zip σ)[i]? = some (s, o) := by
  rw [List.getElem?_zip_eq_some]
  exact ⟨h1, h2⟩
/-- the state with the slot i ahead of the rest -/
abbrev restAt (ρ : Fr) (σ : L2.St) (i : Nat) (hs : List Ent) : List Ent := (ρ.zip σ).eraseIdx i ++ hs
theorem focus {s : Sl} {o : Option V} (h1 : ρ[i]? = some s) (h2 : σ[i]? = some o) (hs : List Ent) : (ρ.zip σ ++ hs).Perm ((s, o) :: restAt ρ σ i hs) :=
  (perm_focus (zip_at h1 h2)).append_right hs
theorem unfocus {s s' : Sl} {o o' : Option V} (h1 : ρ[i]? = some s) (h2 : σ[i]? = some o) (hs : List Ent) : ((ρ.set i s').zip (σ.set i o') ++ hs).Perm ((s', o') :: restAt ρ σ i hs) := by
  rw [zip_set]
  have hi : i < (ρ.zip σ).length := (List.getElem?_eq_some_iff.mp (zip_at h1 h2)).1
  have e : ((ρ.zip σ).set i (s', o'))[i]? = some (s', o') := by rw [List.getElem?_set_self hi]
  have q := (perm_focus e).append_right hs
  rw [erase_set] at q
  exact q
theorem Sim.slot (S : Sim K G ρ hs σ H) {s : Sl} (h : ρ[i]? = some s) : ∃ o, σ[i]? = some o := by
  have hi : i < σ.length := S.len ▸ (List.getElem?_eq_some_iff.mp h).1
  exact ⟨_, List.getElem?_eq_getElem hi⟩
theorem Sim.mem (S : Sim K G ρ hs σ H) {s : Sl} {o : Option V} (h1 : ρ[i]? = some s) (h2 : σ[i]? = some o) : (s, o) ∈ ρ.zip σ ++ hs :=
  List.mem_append_left _ (List.mem_of_getElem? (zip_at h1 h2))
/-- the slot i changes, the values of the slots stay -/
theorem Sim.reslot (S : Sim K G ρ hs σ H) {s s' : Sl} {o : Option V} (h1 : ρ[i]? = some s) (h2 : σ[i]? = some o) (q : SimP K G.B ((s', o) :: restAt ρ σ i hs) H')
    (frm : ∀ a u, G.H0 a = some u → Nt u → ¬ G.A a → H' a = some u) (trk : ∀ a, Old G.H0 a → Old H' a) (ow : ∀ a, Owns (s', o) a → G.A a ∨ ¬ Old G.H0 a) (tb : LamX.Tabs tt.ts H') : Sim K G (ρ.set i s') hs σ H' := by
  have u := unfocus (s' := s') (o' := o) h1 h2 hs
  rw [set_self h2] at u
  refine ⟨by rw [List.length_set]; exact S.len, q.perm u.symm, frm, trk, fun a ⟨p, hp, w⟩ => ?_, S.br, tb, S.io⟩
  rcases List.mem_cons.mp (u.mem_iff.mp hp) with rfl | hp
  · exact ow a w
  · exact S.ow a ⟨p, (focus h1 h2 hs).mem_iff.mpr (List.mem_cons_of_mem _ hp), w⟩
theorem Sim.freeze (S : Sim K G ρ hs σ H) (h1 : ρ[i]? = some (.own ds)) : Sim K G (ρ.set i (.val (.list ds))) hs σ H := by
  obtain ⟨o, h2⟩ := S.slot h1
  obtain ⟨a, vs, e, _⟩ := S.sp.own _ (S.mem h1 h2) ds rfl
  have e : o = some (.ref a) := e
  subst e
  exact S.reslot h1 h2 (S.sp.perm (focus h1 h2 hs)).freeze S.frm S.trk (fun b ⟨⟨_, e⟩, _⟩ => by cases e) S.tabs
theorem Sim.ownAt (S : Sim K G ρ hs σ H) (h1 : ρ[i]? = some (.own ds)) : ∃ a vs, σ[i]? = some (some (.ref a)) ∧ H a = some (.lst vs) ∧ RelL K (NS G ρ hs σ) H ds vs := by
  obtain ⟨o, h2⟩ := S.slot h1
  obtain ⟨a, vs, e, e2, r, _⟩ := S.sp.own _ (S.mem h1 h2) ds rfl
  have e : o = some (.ref a) := e
  subst e
  exact ⟨a, vs, h2, e2, r⟩
theorem Sim.valAt (S : Sim K G ρ hs σ H) (h1 : ρ[i]? = some (.val d)) : ∃ v, σ[i]? = some (some v) ∧ RelD K (NS G ρ hs σ) H d v := by
  obtain ⟨o, h2⟩ := S.slot h1
  obtain ⟨v, e, r⟩ := S.sp.val _ (S.mem h1 h2) d rfl
  have e : o = some v := e
  subst e
  exact ⟨v, h2, r⟩
/-- its own list is written -/
theorem Sim.write (S : Sim K G ρ hs σ H) (h1 : ρ[i]? = some (.own ds)) (h2 : σ[i]? = some (some (.ref a))) (r : RelL K (NS G ρ hs σ) H es ws) : Sim K G (ρ.set i (.own es)) hs σ (upd H a (.lst ws)) := by
  have f := focus h1 h2 hs
  have q := S.sp.perm f
  have own : G.A a ∨ ¬ Old G.H0 a := S.ow a ⟨_, S.mem h1 h2, ⟨_, rfl⟩, rfl⟩
  obtain ⟨b0, vs0, e0, e1, _⟩ := S.ownAt h1
  rw [h2] at e0; cases e0
  refine S.reslot h1 h2 (q.write (r.sub (NN.perm f.symm))) (fun b u e t n => ?_) (fun b e => old_write (S.trk b e)) (fun b ⟨_, e⟩ => by cases e; exact own) (tabs_write S.tabs e1)
  · have nb : b ≠ a := fun z => by
      subst z
      rcases own with o | o
      · exact n o
      · exact o ⟨u, e, t⟩
    rw [upd_ne nb]; exact S.frm b u e t n
end

/-! ### results -/
def ents : R → V → List Ent
  | .dt d, x => [(.val d, some x)]
  | .new ds, x => [(.own ds, some x)]
  | .sl _, _ => []
def sameAt : R → V → L2.St → Prop
  | .sl i, x, σ => σ[i]? = some (some x)
  | _, _, _ => True
section
variable {K : W.Frag} {tt : TTs} {G : Gh tt} {ρ ρ' : Fr} {hs hs' : List Ent} {σ σ' : L2.St} {H H' : Hp} {p : Ent} {a : Addr} {d : D} {ds es : List D} {x v : V} {vs ws : List V} {i : Nat} {r : R}
/-- a result read -/
theorem Sim.look (S : Sim K G ρ hs σ H) (he : ∀ p ∈ ents r x, p ∈ hs) (ha : sameAt r x σ) (hl : r.look ρ = some d) : RelT K (NS G ρ hs σ) H d x := by
  cases r with
  | dt d' =>
    have e : d' = d := Option.some.inj hl
    subst e
    obtain ⟨v, e, q⟩ := S.sp.val _ (List.mem_append_right _ (he _ List.mem_cons_self)) d' rfl
    have e : some x = some v := e
    cases e
    exact .dt q
  | new ds =>
    have e : PyData.list ds = d := Option.some.inj hl
    subst e
    obtain ⟨a, vs, e, e2, q, _⟩ := S.sp.own _ (List.mem_append_right _ (he _ List.mem_cons_self)) ds rfl
    have e : some x = some (.ref a) := e
    cases e
    exact .own e2 q
  | sl i =>
    have hl : (ρ[i]?).bind Sl.look = some d := hl
    have ha : σ[i]? = some (some x) := ha
    cases e : ρ[i]? with
    | none => rw [e] at hl; cases hl
    | some s =>
      rw [e] at hl
      cases s with
      | no => cases hl
      | val d' =>
        have e' : d' = d := Option.some.inj hl
        subst e'
        obtain ⟨v, h2, q⟩ := S.valAt e
        rw [ha] at h2; cases h2
        exact .dt q
      | own ds =>
        have e' : PyData.list ds = d := Option.some.inj hl
        subst e'
        obtain ⟨a, vs, h2, e2, q⟩ := S.ownAt e
        rw [ha] at h2; cases h2
        exact .own e2 q
/-- a result given away -/
theorem Sim.esc (S : Sim K G ρ (ents r x ++ hs) σ H) (ha : sameAt r x σ) (hl : r.esc ρ = .ok d ρ') : Sim K G ρ' ((.val d, some x) :: hs) σ H := by
  cases r with
  | dt d' => cases hl; exact S
  | new ds =>
    cases hl
    refine ⟨S.len, ?_, S.frm, S.trk, fun b ⟨p, hp, o⟩ => ?_, S.br, S.tabs, S.io⟩
    · exact ((S.sp.perm (zip_held ..).symm).freeze).perm (zip_held ..)
    · rcases List.mem_cons.mp ((zip_held ..).mem_iff.mpr hp) with rfl | hp
      · obtain ⟨⟨_, e⟩, _⟩ := o; cases e
      · exact S.ow b ⟨p, (zip_held ..).mem_iff.mp (List.mem_cons_of_mem _ hp), o⟩
  | sl i =>
    have ha : σ[i]? = some (some x) := ha
    have S : Sim K G ρ hs σ H := S
    simp only [R.esc] at hl
    split at hl
    · rename_i d' e
      cases hl
      obtain ⟨v, h2, q⟩ := S.valAt e
      rw [ha] at h2; cases h2
      exact S.push_dt q
    · rename_i ds e
      cases hl
      have T := S.freeze e
      have hi : i < ρ.length := (List.getElem?_eq_some_iff.mp e).1
      obtain ⟨v, h2, q⟩ := T.valAt (d := .list ds) (i := i) (by rw [List.getElem?_set_self hi])
      rw [ha] at h2; cases h2
      exact T.push_dt q
    · cases hl
end

/-! ### readings -/
/-- what is known where an error leaves: the value in it, the heap -/
structure XOk {tt : TTs} (K : W.Frag) (G : Gh tt) (d : D) (v : V) (H : Hp) : Prop where
  sp : SimP K G.B [(.val d, some v)] H
  frm : ∀ a o, G.H0 a = some o → Nt o → ¬ G.A a → H a = some o
  trk : ∀ a, Old G.H0 a → Old H a
  tabs : LamX.Tabs tt.ts H
def FinX {tt : TTs} (K : W.Frag) (G : Gh tt) (C : Nat) (d : D) : Prop := ∀ v H dx, XOk K G d v H → H dx = some (.xd [("value", v)]) → tt.E (.ref C) (some dx) H
/-- a reading's ends without a value -/
structure EndsX {α : Type} (F : Out α → Prop) (E : Nat → D → Prop) : Prop where
  no : ¬ F .no
  ex : ∀ C d, F (.ex C d) → E C d
def FinR {tt : TTs} (K : W.Frag) (G : Gh tt) (hs : List Ent) (σ : L2.St) (Q : VK) : Out R → Prop
  | .ok r ρ => ∀ x H, Sim K G ρ (ents r x ++ hs) σ H → sameAt r x σ → Q x H
  | .ex C d => FinX K G C d
  | .no => False
def FinD {tt : TTs} (K : W.Frag) (G : Gh tt) (hs : List Ent) (σ : L2.St) (Q : VK) : Out D → Prop
  | .ok d ρ => ∀ x H, Sim K G ρ ((.val d, some x) :: hs) σ H → Q x H
  | .ex C d => FinX K G C d
  | .no => False
def FinB {tt : TTs} (K : W.Frag) (G : Gh tt) (hs : List Ent) (σ : L2.St) (Q : Bool → Hp → Prop) : Out Bool → Prop
  | .ok b ρ => ∀ H, Sim K G ρ hs σ H → Q b H
  | .ex C d => FinX K G C d
  | .no => False
inductive EntsD : List D → List V → List Ent → Prop
  | nil : EntsD [] [] []
  | cons {d : D} {x : V} {ds : List D} {xs : List V} {es : List Ent} : EntsD ds xs es → EntsD (d :: ds) (x :: xs) ((.val d, some x) :: es)
def FinL {tt : TTs} (K : W.Frag) (G : Gh tt) (hs : List Ent) (σ : L2.St) (Q : List V → Hp → Prop) : Out (List D) → Prop
  | .ok ds ρ => ∀ xs es H, EntsD ds xs es → Sim K G ρ (es ++ hs) σ H → Q xs H
  | .ex C d => FinX K G C d
  | .no => False
inductive EntsR (σ : L2.St) : List R → List V → List Ent → Prop
  | nil : EntsR σ [] [] []
  | cons {r : R} {x : V} {rs : List R} {xs : List V} {es : List Ent} : sameAt r x σ → EntsR σ rs xs es → EntsR σ (r :: rs) (x :: xs) (ents r x ++ es)
def FinRs {tt : TTs} (K : W.Frag) (G : Gh tt) (hs : List Ent) (σ : L2.St) (Q : List V → Hp → Prop) : Out (List R) → Prop
  | .ok rs ρ => ∀ xs es H, EntsR σ rs xs es → Sim K G ρ (es ++ hs) σ H → Q xs H
  | .ex C d => FinX K G C d
  | .no => False
def T (tt : TTs) (K : W.Frag) (m : Fr → Out R) : TE := fun σ H Q => ∃ (G : Gh tt) (ρ : Fr) (hs : List Ent), Sim K G ρ hs σ H ∧ FinR K G hs σ Q (m ρ)
def TD (tt : TTs) (K : W.Frag) (m : Fr → Out D) : TE := fun σ H Q => ∃ (G : Gh tt) (ρ : Fr) (hs : List Ent), Sim K G ρ hs σ H ∧ FinD K G hs σ Q (m ρ)
def TB (tt : TTs) (K : W.Frag) (m : Fr → Out Bool) : TT := fun σ H Q => ∃ (G : Gh tt) (ρ : Fr) (hs : List Ent), Sim K G ρ hs σ H ∧ FinB K G hs σ Q (m ρ)
def TL (tt : TTs) (K : W.Frag) (m : Fr → Out (List D)) : TA := fun σ H Q => ∃ (G : Gh tt) (ρ : Fr) (hs : List Ent), Sim K G ρ hs σ H ∧ FinL K G hs σ Q (m ρ)
def TR (tt : TTs) (K : W.Frag) (m : Fr → Out (List R)) : TA := fun σ H Q => ∃ (G : Gh tt) (ρ : Fr) (hs : List Ent), Sim K G ρ hs σ H ∧ FinRs K G hs σ Q (m ρ)

def Thn {α : Type} (E : Nat → D → Prop) (o : Out α) (P : α → Fr → Prop) : Prop := match o with
  | .ok r ρ => P r ρ
  | .ex C d => E C d
  | .no => False
section
variable {K : W.Frag} {tt : TTs} {G : Gh tt} {ρ ρ' : Fr} {hs hs' hs1 : List Ent} {σ σ' : L2.St} {H H' : Hp} {Q : VK}
/-- an expression is asked at a state; what is left is asked of its result -/
theorem T.ask {ma : Fr → Out R} {P : R → Fr → Prop} (S : Sim K G ρ hs1 σ H) (h : Thn (FinX K G) (ma ρ) P) :
    T tt K ma σ H fun x H1 => ∃ r ρ1, Sim K G ρ1 (ents r x ++ hs1) σ H1 ∧ sameAt r x σ ∧ P r ρ1 := by
  refine ⟨G, ρ, hs1, S, ?_⟩
  cases e : ma ρ with
  | ok r ρ1 => rw [e] at h; exact fun x H1 S1 a => ⟨r, ρ1, S1, a, h⟩
  | ex C d => rw [e] at h; exact h
  | no => rw [e] at h; exact h
theorem TB.ask {ma : Fr → Out Bool} {P : Bool → Fr → Prop} (S : Sim K G ρ hs1 σ H) (h : Thn (FinX K G) (ma ρ) P) :
    TB tt K ma σ H fun b H1 => ∃ ρ1, Sim K G ρ1 hs1 σ H1 ∧ P b ρ1 := by
  refine ⟨G, ρ, hs1, S, ?_⟩
  cases e : ma ρ with
  | ok r ρ1 => rw [e] at h; exact fun H1 S1 => ⟨ρ1, S1, h⟩
  | ex C d => rw [e] at h; exact h
  | no => rw [e] at h; exact h
theorem TD.ask {ma : Fr → Out D} {P : D → Fr → Prop} (S : Sim K G ρ hs1 σ H) (h : Thn (FinX K G) (ma ρ) P) :
    TD tt K ma σ H fun x H1 => ∃ d ρ1, Sim K G ρ1 ((.val d, some x) :: hs1) σ H1 ∧ P d ρ1 := by
  refine ⟨G, ρ, hs1, S, ?_⟩
  cases e : ma ρ with
  | ok r ρ1 => rw [e] at h; exact fun x H1 S1 => ⟨r, ρ1, S1, h⟩
  | ex C d => rw [e] at h; exact h
  | no => rw [e] at h; exact h
theorem TL.ask {ma : Fr → Out (List D)} {P : List D → Fr → Prop} (S : Sim K G ρ hs1 σ H) (h : Thn (FinX K G) (ma ρ) P) :
    TL tt K ma σ H fun xs H1 => ∃ ds es ρ1, EntsD ds xs es ∧ Sim K G ρ1 (es ++ hs1) σ H1 ∧ P ds ρ1 := by
  refine ⟨G, ρ, hs1, S, ?_⟩
  cases e : ma ρ with
  | ok r ρ1 => rw [e] at h; exact fun xs es H1 E S1 => ⟨r, es, ρ1, E, S1, h⟩
  | ex C d => rw [e] at h; exact h
  | no => rw [e] at h; exact h
theorem TR.ask {ma : Fr → Out (List R)} {P : List R → Fr → Prop} (S : Sim K G ρ hs1 σ H) (h : Thn (FinX K G) (ma ρ) P) :
    TR tt K ma σ H fun xs H1 => ∃ ds es ρ1, EntsR σ ds xs es ∧ Sim K G ρ1 (es ++ hs1) σ H1 ∧ P ds ρ1 := by
  refine ⟨G, ρ, hs1, S, ?_⟩
  cases e : ma ρ with
  | ok r ρ1 => rw [e] at h; exact fun xs es H1 E S1 => ⟨r, es, ρ1, E, S1, h⟩
  | ex C d => rw [e] at h; exact h
  | no => rw [e] at h; exact h
/-- a bind's first half -/
theorem esc_nex {r : R} {ρ : Fr} {C : Nat} {d : D} (e : r.esc ρ = .ex C d) : False := by
  cases r with
  | dt _ => cases e
  | new _ => cases e
  | sl i => simp only [R.esc] at e; split at e <;> cases e
theorem bind_split {α β : Type} {o : Out α} {k : α → Fr → Out β} {F : Out β → Prop} {E : Nat → D → Prop} (hno : EndsX F E) (h : F (o.bind k)) : Thn E o fun r ρ' => F (k r ρ') := by
  cases o with
  | ok r ρ => exact h
  | ex C d => exact hno.ex C d h
  | no => exact hno.no h
/-- the answer is handed on -/
theorem FinR.give {r : R} {x : V} (h : FinR K G hs σ Q (.ok r ρ)) (S : Sim K G ρ (ents r x ++ hs) σ H) (a : sameAt r x σ) : Q x H := h x H S a
/-- asked of an option -/
theorem FinR.asked {o : Option R} (h : FinR K G hs σ Q (Py.ask o ρ)) : ∃ r, o = some r ∧ FinR K G hs σ Q (.ok r ρ) := by
  cases o with
  | some r => exact ⟨r, rfl, h⟩
  | none => exact h.elim
theorem FinB.asked {Q : Bool → Hp → Prop} {o : Option Bool} (h : FinB K G hs σ Q (Py.ask o ρ)) : ∃ r, o = some r ∧ FinB K G hs σ Q (.ok r ρ) := by
  cases o with
  | some r => exact ⟨r, rfl, h⟩
  | none => exact h.elim
end
end Py
end
section
set_option Elab.async false
set_option linter.all false
set_option autoImplicit false
set_option maxRecDepth 100000
/-! Rules, 1: operators by values. -/
namespace Py
open PySem PySem.Spec PyProof.Rows L2

theorem pe_imp {X : Cx} {e : Expr} {t t' : TE} (h : PE X e t) (w : ∀ σ H Q, t' σ H Q → t σ H Q) : PE X e t' := ⟨fun pins s σ H Q I q => h.run pins s σ H Q I (w _ _ _ q)⟩
theorem pt_imp {X : Cx} {e : Expr} {t t' : TT} (h : PT X e t) (w : ∀ σ H Q, t' σ H Q → t σ H Q) : PT X e t' := ⟨fun pins s σ H Q I q => h.run pins s σ H Q I (w _ _ _ q)⟩
theorem pa_imp {X : Cx} {e : List Expr} {t t' : TA} (h : PA X e t) (w : ∀ σ H Q, t' σ H Q → t σ H Q) : PA X e t' := ⟨fun pos pins s σ H Q I q => h.run pos pins s σ H Q I (w _ _ _ q)⟩
theorem ps_imp {X : Cx} {e : Stmt} {t t' : TS} (h : PS X e t) (w : ∀ D σ H, t' D σ H → t D σ H) : PS X e t' := ⟨fun pins s σ H D I q => h.run pins s σ H D I (w _ _ _ q)⟩
theorem pss_imp {X : Cx} {e : List Stmt} {t t' : TS} (h : PSs X e t) (w : ∀ D σ H, t' D σ H → t D σ H) : PSs X e t' := ⟨fun pins s σ H D I q => h.run pins s σ H D I (w _ _ _ q)⟩
theorem pi_imp {X : Cx} {tg e : Expr} {t t' : TI} (h : PI X tg e t) (w : ∀ σ H Q, t' σ H Q → t σ H Q) : PI X tg e t' := ⟨fun pins s σ H Q I q => h.run pins s σ H Q I (w _ _ _ q)⟩

/-! ### comparisons -/
theorem fine_parts {d : D} (h : fine d = true) : d.plain = true ∧ d.canLay0 = true ∧ d.depth ≤ 50 := by
  simp only [fine, Bool.and_eq_true, decide_eq_true_eq] at h
  exact ⟨h.1.1.1, h.1.1.2, h.1.2⟩
theorem fine_okD {d : D} (h : fine d = true) : okD d = true := by
  simp only [fine, Bool.and_eq_true, decide_eq_true_eq] at h
  exact h.2
theorem fine_shaped {d : D} (h : fine d = true) : SeqAt.shaped d = true := by
  obtain ⟨_, h2, h3⟩ := fine_parts h
  unfold SeqAt.shaped
  rw [h2, Bool.true_and, decide_eq_true_eq]
  omega
def rCmp (K : W.Frag) (op : CmpOp) : R2 := fun x y H Q => ∃ N d e b, RelT K N H d x ∧ RelT K N H e y ∧ cmpop op d e = some b ∧ Q (.bl b) H
section
variable {tt : TTs} {X : Cx}
theorem if_some {α : Type} {c : Bool} {a b : α} (h : (if c = true then some a else none) = some b) : c = true ∧ a = b := by
  cases c with
  | true => exact ⟨rfl, Option.some.inj h⟩
  | false => cases h
theorem dp_items {K : W.Frag} {H : Hp} {y : V} {e : D} {ds : List D} (he : Dp K H y e) (hi : itemsD e = some ds) : e = .list ds ∨ e = .tuple ds := by
  cases he <;> simp [itemsD] at hi <;> subst hi
  · exact .inl rfl
  · exact .inr rfl
theorem plain_items {ds : List D} {e : D} (h : e = .list ds ∨ e = .tuple ds) (hf : fine e = true) : PyData.plainAll ds = true ∧ PyData.depthAll ds ≤ 50 := by
  obtain ⟨h1, _, h3⟩ := fine_parts hf
  rcases h with rfl | rfl
  · simp only [PyData.plain, PyData.depth] at h1 h3; exact ⟨h1, by omega⟩
  · simp only [PyData.plain, PyData.depth] at h1 h3; exact ⟨h1, by omega⟩
theorem rt_none {K : W.Frag} {N : Addr → Prop} {H : Hp} {x : V} {d : D} (h : RelT K N H d x) : decide (x = .non) = isNon d := by
  cases h with
  | dt h => cases h <;> simp [isNon]
  | own h r => simp [isNon]
theorem lt_parts {a b : D} {z : Bool} {r : Bool} (h : (if W.alike a b && (fine a && fine b) && !(isNon a) then some z else none) = some r) :
    z = r ∧ W.alike a b = true ∧ a ≠ .none ∧ a.depth ≤ 50 ∧ b.depth ≤ 50 ∧ okD a = true ∧ okD b = true := by
  obtain ⟨h1, h2⟩ := if_some h
  simp only [Bool.and_eq_true] at h1
  obtain ⟨⟨h3, h4, h5⟩, h6⟩ := h1
  refine ⟨h2, h3, fun e => ?_, (fine_parts h4).2.2, (fine_parts h5).2.2, fine_okD h4, fine_okD h5⟩
  subst e; simp [isNon] at h6
theorem op_cmp (hu : X.A.units + 64 < cLine) (op : CmpOp) : OpR X (compareOp op) (rCmp X.K op) := by
  intro pins s σ H x y v u Q I rx ry h
  obtain ⟨N, d, e, b, hd, he, hc, q⟩ := h
  have rd1 : okD d = true → ∃ as, Reads s.heap v d as := fun o => Dp.reads I d x v (hd.dp o) rx
  have rd2 : okD e = true → ∃ bs, Reads s.heap u e bs := fun o => Dp.reads I e y u (he.dp o) ry
  cases op with
  | Eq =>
    obtain ⟨h1, rfl⟩ := if_some hc
    simp only [Bool.and_eq_true] at h1
    obtain ⟨as, r1⟩ := rd1 (fine_okD h1.1)
    obtain ⟨bs, r2⟩ := rd2 (fine_okD h1.2)
    exact SeqAt.compareEq_shaped r1 r2 (fine_shaped h1.1) (fine_shaped h1.2) hu ⟨.bl _, H, I, rfl, q⟩
  | NotEq =>
    obtain ⟨h1, rfl⟩ := if_some hc
    simp only [Bool.and_eq_true] at h1
    obtain ⟨as, r1⟩ := rd1 (fine_okD h1.1)
    obtain ⟨bs, r2⟩ := rd2 (fine_okD h1.2)
    exact SeqAt.compareNe_shaped r1 r2 (fine_shaped h1.1) (fine_shaped h1.2) hu ⟨.bl _, H, I, rfl, q⟩
  | Lt =>
    obtain ⟨rfl, h2, h3, h4, h5, o1, o2⟩ := lt_parts hc
    obtain ⟨as, r1⟩ := rd1 (by assumption)
    obtain ⟨bs, r2⟩ := rd2 (by assumption)
    exact W.lt_data r1 r2 h2 h3 (by omega) ⟨.bl _, H, I, rfl, q⟩
  | LtE =>
    obtain ⟨rfl, h2, h3, h4, h5, o1, o2⟩ := lt_parts hc
    obtain ⟨as, r1⟩ := rd1 (by assumption)
    obtain ⟨bs, r2⟩ := rd2 (by assumption)
    exact W.le_data r1 r2 h2 h3 (by omega) ⟨.bl _, H, I, rfl, q⟩
  | Gt =>
    obtain ⟨rfl, h2, h3, h4, h5, o1, o2⟩ := lt_parts hc
    obtain ⟨as, r1⟩ := rd1 (by assumption)
    obtain ⟨bs, r2⟩ := rd2 (by assumption)
    exact W.gt_data r1 r2 h2 h3 (by omega) ⟨.bl _, H, I, rfl, q⟩
  | GtE =>
    obtain ⟨rfl, h2, h3, h4, h5, o1, o2⟩ := lt_parts hc
    obtain ⟨as, r1⟩ := rd1 (by assumption)
    obtain ⟨bs, r2⟩ := rd2 (by assumption)
    exact W.ge_data r1 r2 h2 h3 (by omega) ⟨.bl _, H, I, rfl, q⟩
  | Is =>
    simp only [cmpop] at hc
    split at hc
    · cases hc
      obtain rfl : y = .non := he.non
      cases ry
      exact op_isN pins s σ H x .non v _ Q I rx rfl ⟨rfl, by rw [rt_none hd]; exact q⟩
    · cases hc
  | IsNot =>
    simp only [cmpop] at hc
    split at hc
    · cases hc
      obtain rfl : y = .non := he.non
      cases ry
      exact op_notN pins s σ H x .non v _ Q I rx rfl ⟨rfl, by rw [rt_none hd]; exact q⟩
    · cases hc
  | In =>
    simp only [cmpop] at hc
    split at hc
    · rename_i ds hi
      obtain ⟨h1, rfl⟩ := if_some hc
      simp only [Bool.and_eq_true] at h1
      obtain ⟨as, r1⟩ := rd1 (fine_okD h1.1)
      obtain ⟨bs, r2⟩ := rd2 (fine_okD h1.2)
      have hk := dp_items (he.dp (fine_okD h1.2)) hi
      obtain ⟨hp, hdp⟩ := plain_items hk h1.2
      have hu2 : X.A.units + 1 + min (PyData.depthAll ds) d.depth < cLine := by omega
      rcases hk with rfl | rfl
      · exact SeqAt.in_list_data r2 r1 hp (fine_parts h1.1).1 hu2 ⟨.bl _, H, I, rfl, q⟩
      · exact SeqAt.in_tuple_data r2 r1 hp (fine_parts h1.1).1 hu2 ⟨.bl _, H, I, rfl, q⟩
    · cases hc
  | NotIn =>
    simp only [cmpop] at hc
    split at hc
    · rename_i ds hi
      obtain ⟨h1, rfl⟩ := if_some hc
      simp only [Bool.and_eq_true] at h1
      obtain ⟨as, r1⟩ := rd1 (fine_okD h1.1)
      obtain ⟨bs, r2⟩ := rd2 (fine_okD h1.2)
      have hk := dp_items (he.dp (fine_okD h1.2)) hi
      obtain ⟨hp, hdp⟩ := plain_items hk h1.2
      have hu2 : X.A.units + 1 + min (PyData.depthAll ds) d.depth < cLine := by omega
      rcases hk with rfl | rfl
      · exact SeqAt.notIn_list_data r2 r1 hp (fine_parts h1.1).1 hu2 ⟨.bl _, H, I, rfl, q⟩
      · exact SeqAt.notIn_tuple_data r2 r1 hp (fine_parts h1.1).1 hu2 ⟨.bl _, H, I, rfl, q⟩
    · cases hc

/-! ### operators -/
theorem op_powW : OpR X (binaryOp .Pow) (rI (fun i j => 0 ≤ j ∧ (Builtin.Int.intBits i : Int) * j ≤ 2 ^ 27) fun i j => .int (i ^ j.toNat)) :=
  opI fun _ _ _ _ _ _ _ hc q => pow_int hc.1 hc.2 q
def rCatR (K : W.Frag) : R2 := fun x y H Q => ∃ l b xs zs, x = .ref l ∧ y = .ref b ∧ LsR K H l xs ∧ LsR K H b zs ∧ xs.length + zs.length ≤ sizeLine ∧ ∀ p, H p = none → Q (.ref p) (upd H p (.lst (xs ++ zs)))
theorem op_catR : OpR X (binaryOp .Add) (rCatR X.K) := by
  intro pins s σ H x y v u Q I rx ry h
  obtain ⟨l, b, xs, zs, rfl, rfl, hH, hB, hz, q⟩ := h
  cases rx
  cases ry
  obtain ⟨z, its, n, r, e⟩ := hH.at I
  obtain ⟨z2, its2, n2, r2, e2⟩ := hB.at I
  have l1 := r.length
  have l2 := r2.length
  refine PySem.P.add_list e e2 ?_ (by rw [List.size_toArray, List.size_toArray]; omega)
  have ea : its.toArray ++ its2.toArray = (its ++ its2).toArray := by simp
  rw [ea]
  exact ⟨.ref _, _, I.lnew (t' := s.toks) (r.append r2) (by rw [List.length_append]; omega), rfl, q _ I.fresh⟩
theorem upd_grow {H : Hp} {a : Addr} {o : HO} (h : H a = none) : ∀ b u, H b = some u → upd H a o b = some u := fun b u e => by rw [upd_ne (ne_of_none e h)]; exact e
/-- what is read of a result: the value, the heap behind; the heap ahead is kept -/
def Res (K : W.Frag) (N : Addr → Prop) (H : Hp) (r : R) (z : V) (H' : Hp) : Prop := match r with
  | .dt d => (∀ a o, H a = some o → H' a = some o) ∧ RelD K N H' d z
  | .new ds => ∃ a vs, z = .ref a ∧ H a = none ∧ H' = upd H a (.lst vs) ∧ RelL K N H ds vs
  | .sl _ => False
theorem res_new {K : W.Frag} {N : Addr → Prop} {H : Hp} {ds : List D} {vs : List V} {p : Addr} (hp : H p = none) (r : RelL K N H ds vs) : Res K N H (.new ds) (.ref p) (upd H p (.lst vs)) := ⟨p, vs, rfl, hp, rfl, r⟩
theorem res_tup {K : W.Frag} {N : Addr → Prop} {H : Hp} {ds : List D} {vs : List V} {p : Addr} (hp : H p = none) (r : RelL K N H ds vs) : Res K N H (.dt (.tuple ds)) (.ref p) (upd H p (.tup vs)) :=
  ⟨upd_grow hp, .tup (.inl (.inl upd_same)) (r.grow hp)⟩
theorem res_dt {K : W.Frag} {N : Addr → Prop} {H : Hp} {d : D} {z : V} (r : RelD K N H d z) : Res K N H (.dt d) z H := ⟨fun _ _ e => e, r⟩

/-- an operator by what it gives -/
def rBin (K : W.Frag) (op : Operator) : R2 := fun x y H Q => ∃ N d e r, RelT K N H d x ∧ RelT K N H e y ∧ binop op d e = some r ∧ ∀ z H', Res K N H r z H' → Q z H'
theorem iteS {α : Type} {c : Prop} [Decidable c] {a b : α} (h : (if c then some a else none) = some b) : c ∧ a = b := by
  by_cases hc : c
  · rw [if_pos hc] at h; exact ⟨hc, Option.some.inj h⟩
  · rw [if_neg hc] at h; cases h
theorem op_bin (op : Operator) : OpR X (binaryOp op) (rBin X.K op) := by
  intro pins s σ H x y v u Q I rx ry h
  obtain ⟨N, d, e, r, hx, hy, hb, q⟩ := h
  unfold binop at hb
  split at hb
  · cases hb; obtain rfl := hx.int; obtain rfl := hy.int
    exact op_add pins s σ H _ _ v u Q I rx ry ⟨_, _, rfl, rfl, q _ _ (res_dt (.int _))⟩
  · cases hb; obtain rfl := hx.int; obtain rfl := hy.int
    exact op_sub pins s σ H _ _ v u Q I rx ry ⟨_, _, rfl, rfl, q _ _ (res_dt (.int _))⟩
  · obtain ⟨hc, rfl⟩ := iteS hb; obtain rfl := hx.int; obtain rfl := hy.int
    exact op_mulW pins s σ H _ _ v u Q I rx ry ⟨_, _, rfl, rfl, hc, q _ _ (res_dt (.int _))⟩
  · obtain ⟨hc, rfl⟩ := iteS hb; obtain rfl := hx.int; obtain rfl := hy.int
    exact op_fdivW pins s σ H _ _ v u Q I rx ry ⟨_, _, rfl, rfl, hc, q _ _ (res_dt (.int _))⟩
  · obtain ⟨hc, rfl⟩ := iteS hb; obtain rfl := hx.int; obtain rfl := hy.int
    exact op_mod pins s σ H _ _ v u Q I rx ry ⟨_, _, rfl, rfl, hc, q _ _ (res_dt (.int _))⟩
  · obtain ⟨hc, rfl⟩ := iteS hb; obtain rfl := hx.int; obtain rfl := hy.int
    exact op_powW pins s σ H _ _ v u Q I rx ry ⟨_, _, rfl, rfl, hc, q _ _ (res_dt (.int _))⟩
  · obtain ⟨hc, rfl⟩ := iteS hb
    obtain ⟨a, vs, rfl, h1, r1⟩ := hx.tuple
    obtain ⟨b, ws, rfl, h2, r2⟩ := hy.tuple
    have l1 := r1.length
    have l2 := r2.length
    refine op_catA pins s σ H _ _ v u Q I rx ry ⟨a, b, vs, ws, rfl, rfl, h1, h2, by omega, fun e => ?_, fun _ e => ?_, fun _ _ p hp => ?_⟩
    · subst e; cases r1; exact q _ _ (res_dt (.tup h2 r2))
    · subst e; cases r2; exact q _ _ (by rw [List.append_nil]; exact res_dt (.tup h1 r1))
    · exact q _ _ (res_tup hp (r1.app r2))
  · obtain ⟨hc, rfl⟩ := iteS hb
    obtain ⟨a, vs, rfl, h1, r1⟩ := hx.list
    obtain ⟨b, ws, rfl, h2, r2⟩ := hy.list
    have l1 := r1.length
    have l2 := r2.length
    exact op_catR pins s σ H _ _ v u Q I rx ry ⟨a, b, vs, ws, rfl, rfl, h1, h2, by omega, fun p hp => q _ _ (res_new hp (r1.app r2))⟩
  · obtain ⟨hc, rfl⟩ := iteS hb; obtain rfl := hx.str; obtain rfl := hy.str
    exact op_add_str pins s σ H _ _ v u Q I rx ry ⟨_, _, rfl, rfl, hc, q _ _ (res_dt (.str _))⟩
  · cases hb
end
end Py
end
section
set_option Elab.async false
set_option linter.all false
set_option autoImplicit false
set_option maxRecDepth 100000
set_option maxHeartbeats 4000000
/-! Sorting alike tuples, the empty one among them. -/
namespace Py
open PySem PySem.W PySem.Calls PyProof.Rows PySem.SeqAt

section
variable {prog : Program} {w : World} {A : Around} {E : Value → Shared → Prop} {s : Shared} {M : Model}
/-- tuple's own __lt__, as a sort makes it -/
theorem tup_lt {Q : Value → Shared → Prop} {l b : Addr} {xs ys : Array Value} {e r : Nat → Bool} (hl : s.heap.IsTuple l xs) (hb : s.heap.IsTuple b ys)
    (he : ∀ j (h1 : j < xs.size) (h2 : j < ys.size), EqAt A.in1 s xs[j] ys[j] (e j)) (hr : ∀ j (h1 : j < xs.size) (h2 : j < ys.size), e j = false → RcLt A.in1 s xs[j] ys[j] (r j)) (h : Q (.bool (firstLt e r (decide (xs.size < ys.size)) (List.range (min xs.size ys.size)))) s) :
    wpAny (model prog w) A (call (.builtin "tuple.__lt__") [.ref l, .ref b]) Q E s := by
  obtain ⟨⟨c1, d1, t1, s1⟩, o1, k1, n1, z1⟩ := hl
  obtain ⟨⟨c2, d2, t2, s2⟩, o2, k2, n2, z2⟩ := hb
  dsimp only at k1 z1 k2 z2
  subst k1 z1 k2 z2
  exact call_meets F.slot_tuple_lt ⟨_, o1, rfl⟩ F.entry_tuple_lt (F.args_tuple_lt_2 _ _) (tuple_ltAt l b xs ys n1 n2 d1 d2 s1 s2 e r) ⟨o1, o2, he, hr, h⟩
theorem one_tup {xs ys : List PyData} {a b : Value} {as bs : List Addr} {Q : Bool → Shared → Prop} (ra : Reads s.heap a (.tuple xs) as) (rb : Reads s.heap b (.tuple ys) bs) (h : alike (.tuple xs) (.tuple ys) = true)
    (hu : A.units + min (PyData.depth (.tuple xs)) (PyData.depth (.tuple ys)) < cLine) (hq : Q (dataLt (.tuple xs) (.tuple ys)) s) : wpAny (model prog w) A (oneLt' true a b) Q E s := by
  have hal : alikeAll xs ys = true := by simpa [alike] using h
  cases ra with
  | @tuple l o vs n _ as₁ h1 h2 h3 h4 =>
    cases rb with
    | @tuple l' o' ws n' _ bs₁ k1 k2 k3 k4 =>
      have n1 : vs.size = xs.length := by simpa using SeqAt.ReadsAll.length _ _ _ h4
      have n2 : ws.size = ys.length := by simpa using SeqAt.ReadsAll.length _ _ _ k4
      rw [dataLt_tuple, ← firstLt_toks xs ys hal, ← n1, ← n2] at hq
      rw [oneLt'_eq]
      simp only [if_true]
      refine wpAny_bind (wpAny_cRoomFor (SeqAt.room_here hu) ?_)
      refine wpAny_bind (wpAny_callSpecialIfBound?_slot (T := "tuple") ⟨_, h1, h2⟩ F.slot_tuple_lt (tup_lt (e := pairEq xs ys) (r := fun j => dataLt (xs.getD j .none) (ys.getD j .none)) ⟨_, h1, h2, _, h3⟩ ⟨_, k1, k2, _, k3⟩ (fun j j1 j2 => ?_) (fun j j1 j2 hj => ?_) (wpAny_truthy_bool hq)))
      · have q := eqAt_alikeAll xs ys A.in1 s vs.toList ws.toList _ _ h4 k4 hal (SeqAt.room_in hu) j (by simpa using j1) (by simpa using j2)
        simpa using q
      · have q := rcLt_alikeAll xs ys A.in1 s vs.toList ws.toList _ _ h4 k4 hal (SeqAt.room_in hu) j (by simpa using j1) (by simpa using j2) hj
        simpa using q
theorem gen_lt (x y : Value) : keyLt' general' x y = oneLt' false x y := rfl
/-- the first items, where there are any -/
theorem firsts_tups {h : Heap} : ∀ {vs : List Value} {ds : List PyData}, EachIs (fun v d => ∃ as, Reads h v d as) vs ds → (∀ d ∈ ds, ∃ r, d = .tuple r) → ∃ fs : List (Option Value), (∀ {A : Around} {E : Value → Shared → Prop} {s : Shared} {Q : List (Option Value) → Shared → Prop}, s.heap = h → Q fs s → wpAny M A (vs.mapM firstOfTuple') Q E s) ∧
      (fs.length = ds.length) ∧ ∀ (i : Nat) (o : Option Value) (d : PyData), fs[i]? = some o → ds[i]? = some d → (o.isSome = true ↔ d ≠ .tuple [])
  | _, _, .nil, _ => ⟨[], fun _ q => by rw [List.mapM_nil]; exact wpAny_pure q, rfl, fun i o d h => by simp at h⟩
  | _, _, .cons (b := d) (as := vs) ⟨as, r⟩ t, ht => by
    obtain ⟨fs, h1, h2, h3⟩ := firsts_tups t fun d hd => ht d (List.mem_cons_of_mem _ hd)
    obtain ⟨xs, rfl⟩ := ht d List.mem_cons_self
    cases r with
    | @tuple a o us n _ as₁ ho hc hd hr =>
      refine ⟨us[0]? :: fs, fun {A E s Q} es q => ?_, by simp [h2], fun i o' d' e1 e2 => ?_⟩
      · subst es
        rw [List.mapM_cons]
        refine wpAny_bind ?_
        rw [kas_first_eq]
        refine wpAny_bind (Looks.here (show Looks M s.heap (typeOf (.ref a)) o.cls from (Looks.ld ho).andThen .now) ?_)
        rw [hc, if_neg (by first | decide | simp)]
        refine wpAny_bind (listItems_at ho hd (wpAny_pure ?_))
        exact wpAny_bind (h1 rfl (wpAny_pure q))
      · cases i with
        | succ i => exact h3 i o' d' (by simpa using e1) (by simpa using e2)
        | zero =>
          have e1 : us[0]? = o' := by simpa using e1
          have e2 : PyData.tuple xs = d' := by simpa using e2
          subst e1 e2
          have hl : us.size = xs.length := by simpa using SeqAt.ReadsAll.length _ _ _ hr
          constructor
          · intro hs e
            have : xs = [] := by injection e
            subst this
            rw [Array.getElem?_eq_none (by simp at hl; simp [hl])] at hs
            exact absurd hs (by simp)
          · intro e
            have hpos : 0 < us.size := by
              rw [hl]
              cases xs with
              | nil => exact absurd rfl e
              | cons _ _ => simp
            rw [Array.getElem?_eq_getElem hpos]
            rfl
theorem sortsAt_tups {vs : List Value} {ds : List PyData} (e : EachIs (fun v d => ∃ as, Reads s.heap v d as) vs ds) (hal : AllAlike ds) (ht : ∀ d ∈ ds, ∃ r, d = .tuple r) (hu : ∀ d, d ∈ ds → A.units + d.depth < cLine) : SortsAt prog w A s (dataKind s.heap ds) vs := by
  by_cases hall : ∀ d ∈ ds, ∃ x r, d = .tuple (x :: r)
  · exact SortsAt.data e hal (.inl hall) hu
  have hbad : ∃ d ∈ ds, d = PyData.tuple [] := Classical.byContradiction fun hn => hall fun d hd => by
    obtain ⟨r, rfl⟩ := ht d hd
    cases r with
    | nil => exact absurd ⟨_, hd, rfl⟩ hn
    | cons x r => exact ⟨x, r, rfl⟩
  have room : ∀ {d d' : PyData}, d ∈ ds → A.units + min d.depth d'.depth < cLine := fun {d d'} hd => Nat.lt_of_le_of_lt (Nat.add_le_add_left (Nat.min_le_left _ _) _) (hu d hd)
  refine ⟨fun v hv => ?_, ?_⟩
  · obtain ⟨d, hd, as, r⟩ := e.left v hv
    exact ⟨_, dataKind_some hal hd r⟩
  obtain ⟨fs, f1, f2, f3⟩ := firsts_tups (M := model prog w) e ht
  have nall : fs.toArray.all (·.isSome) = false := by
    obtain ⟨d, hd, rfl⟩ := hbad
    obtain ⟨i, hi, hid⟩ := List.getElem_of_mem hd
    have hi2 : i < fs.length := by rw [f2]; exact hi
    rw [Bool.eq_false_iff]
    intro q
    have q2 : fs[i].isSome = true := by
      have q := (by simpa using q : ∀ x ∈ fs, x.isSome = true)
      exact q _ (List.getElem_mem hi2)
    exact (f3 i fs[i] _ (List.getElem?_eq_getElem hi2) (by rw [List.getElem?_eq_getElem hi, hid])).mp q2 rfl
  have hlen := e.length
  cases vs with
  | nil =>
    cases e
    obtain ⟨d, hd, _⟩ := hbad
    exact absurd hd (by simp)
  | cons v₀ vs₀ =>
    cases ds with
    | nil => cases e
    | cons d₀ ds₀ =>
      cases fs with
      | nil => simp at f2
      | cons o₀ fs₀ =>
        have q0 := f3 0 o₀ d₀ rfl rfl
        by_cases hz : d₀ = PyData.tuple []
        · have hn : o₀.isSome = false := by
            cases hb : o₀.isSome with
            | false => rfl
            | true => exact absurd hz (q0.mp hb)
          refine ⟨oneType', fun E x y a b Q ha hb hq => ?_, fun h2 E Q hq => ?_⟩
          · obtain ⟨d, as, hd, ra, rfl⟩ := dataKind_inv ha
            obtain ⟨d', as', hd', rb, rfl⟩ := dataKind_inv hb
            rw [keyLt'_oneType]
            obtain ⟨x1, rfl⟩ := ht d hd
            obtain ⟨x2, rfl⟩ := ht d' hd'
            exact one_tup ra rb (hal _ hd _ hd') (room hd) hq
          · rw [kat_kind_eq, List.mapM_toArray, map_eq_pure_bind]
            refine wpAny_bind (wpAny_bind (f1 rfl (wpAny_pure ?_)))
            rw [nall, if_neg Bool.false_ne_true]
            have h0 : ((o₀ :: fs₀).toArray[0]?.bind id).isSome = false := by
              have : (o₀ :: fs₀).toArray[0]? = some o₀ := by simp
              rw [this]; exact hn
            rw [h0, if_neg Bool.false_ne_true]
            rw [oneTypeOnly'_eq, List.mapM_toArray, map_eq_pure_bind]
            refine wpAny_bind (wpAny_bind (wpAny_bind (kas_mapM (r := Value.type "tuple") _ (fun v hv Q' hq' => ?_) (wpAny_pure ?_))))
            · obtain ⟨d, hd, as, r⟩ := e.left v hv
              obtain ⟨x, rfl⟩ := ht d hd
              exact (looks_reads r).here hq'
            · have ha : ((List.map (fun _ => Value.type "tuple") (v₀ :: vs₀)).toArray.all fun x => x == Value.type "tuple") = true := by
                simp only [List.all_toArray, List.all_map, List.all_eq_true]
                intro _ _
                rfl
              have h0 : (List.map (fun _ => Value.type "tuple") (v₀ :: vs₀)).toArray[0]? = some (Value.type "tuple") := by simp
              rw [h0]
              simp only [ha, if_true]
              exact wpAny_pure (wpAny_pure hq)
        · have hn : o₀.isSome = true := q0.mpr hz
          refine ⟨general', fun E x y a b Q ha hb hq => ?_, fun h2 E Q hq => ?_⟩
          · obtain ⟨d, as, hd, ra, rfl⟩ := dataKind_inv ha
            obtain ⟨d', as', hd', rb, rfl⟩ := dataKind_inv hb
            rw [gen_lt]
            obtain ⟨x1, rfl⟩ := ht d hd
            exact oneLt_alike (fun z => nomatch z) ra rb (hal _ hd _ hd') (fun z => nomatch z) (room hd) hq
          · rw [kat_kind_eq, List.mapM_toArray, map_eq_pure_bind]
            refine wpAny_bind (wpAny_bind (f1 rfl (wpAny_pure ?_)))
            rw [nall, if_neg Bool.false_ne_true]
            have h0 : ((o₀ :: fs₀).toArray[0]?.bind id).isSome = true := by
              have : (o₀ :: fs₀).toArray[0]? = some o₀ := by simp
              rw [this]; exact hn
            rw [h0, if_pos rfl]
            exact wpAny_pure hq
end
end Py
end
section
set_option Elab.async false
set_option linter.all false
set_option autoImplicit false
set_option maxRecDepth 100000
/-! Rules, 2: sorted of anything that is collected; built-ins by values. -/
namespace Py
open PySem PySem.Spec PyProof.Rows L2

section
variable {prog : Program} {w : World} {A : Around} {E : Value → Shared → Prop} {s : Shared}
theorem collect_tuple {l : Addr} {vs : List Value} {Q : List Value → Shared → Prop} (hl : s.heap.IsTuple l vs.toArray)
    (h : Q vs { s with heap := (s.heap.push (seqObj "list" #[] 0)).update s.heap.objs.size (Obj.mapSeq (· ++ vs.toArray)) }) (hsz : vs.length ≤ sizeLine) :
    wpAny (model prog w) A (collect (.ref l)) Q E s := by
  obtain ⟨o, ho, hc, n, hd⟩ := id hl
  unfold collect
  refine wpAny_bind (wpAny_runValue (codeAny_builtin entry_proto_collect' ?_))
  show wpAny _ _ (do again (.builtin "list.__iadd__" ⟨[← newList [], .ref l], []⟩)) _ _ s
  refine wpAny_bind (wpAny_newList (wpAny_pure ⟨Code.quiet_builtin _ (by decide +kernel), codeAny_builtin entry_list_iadd' ?_⟩))
  show wpAny _ _ (Builtin.List.listExtendWith (.ref s.heap.objs.size) (.ref l) (.ref s.heap.objs.size)) _ _ { s with heap := s.heap.push (seqObj "list" #[] 0) }
  unfold Builtin.List.listExtendWith
  have ho' : (s.heap.push (seqObj "list" #[] 0)).get? l = some o := Heap.get?_push_of_some _ ho
  refine wpAny_bind (wpAny_typeOf (T := "tuple") ⟨o, ho', hc⟩ ?_)
  rw [if_pos (by rw [show (Value.type "tuple" == Value.type "tuple") = true from rfl]; simp)]
  refine wpAny_bind (listItems_at ho' hd ?_)
  refine wpAny_bind (listItems_at (xs := #[]) (n := 0) (Heap.get?_push_size _ rfl) rfl ?_)
  rw [if_neg (by simp)]
  refine wpAny_bind (listUpdate_at (xs := #[]) (n := 0) (Heap.get?_push_size _ rfl) rfl ?_ (Nat.zero_le _) (by show (#[] ++ vs.toArray).size ≤ sizeLine + 1; simp only [Array.size_append, List.size_toArray, List.length_nil]; omega))
  refine wpAny_pure ?_
  refine wpAny_bind (wpAny_load (get?_update_seq (Heap.get?_push_size _ rfl) _) ?_)
  show wpAny _ _ (pure ((#[] : Array Value) ++ vs.toArray).toList) Q E _
  rw [show ((#[] : Array Value) ++ vs.toArray).toList = vs by simp]
  exact wpAny_pure h
/-- sorted(x): what collect gives, sorted in a new list -/
theorem sorted_shell {x : Value} {kw : List (Str × Value)} {Q : Value → Shared → Prop} (ha1 : argsOk "sorted" ⟨[x], kw⟩) (ha2 : ∀ y, argsOk "list.sort" ⟨[y], kw⟩)
    (col : wpAny (model prog w) A.in1 (collect x) (fun vs s1 => vs.length ≤ sizeLine ∧ ∀ E' : Value → Shared → Prop,
      wpAny (model prog w) A.in1.in1 (Builtin.«list.sort» ⟨[.ref s1.heap.objs.size], kw⟩) (fun f s' => f = .done (.ret .none) ∧ Q (.ref s1.heap.objs.size) s') E' { s1 with heap := s1.heap.push (seqObj "list" vs.toArray 0) }) E s) :
    wpAny (model prog w) A (call (.builtin "sorted") [x] kw) Q E s := by
  refine call_function_entry_kw kind_sorted plain_sorted entry_sorted ha1 ?_
  unfold Builtin.«sorted»
  refine wpAny_bind (m := checkCount "sorted" 1 1 _) (wpAny_pure ?_)
  refine wpAny_bind (wpAny_mono col (fun vs s1 h1 => ?_) fun _ _ e => e)
  refine wpAny_bind (wpAny_newList ?_ h1.1)
  refine wpAny_bind (wpAny_holding (wpAny_call_entry_kw slot_list_sort ⟨_, Heap.get?_push_size _ rfl, rfl⟩ entry_list_sort ?body (ha2 _)))
  case body =>
    show wpAny (model prog w) A.in1.in1 (Builtin.«list.sort» ⟨[.ref s1.heap.objs.size], kw⟩) _ _ _
    refine wpAny_mono (h1.2 _) (fun f s' hf => ?_) fun _ _ e => e
    obtain ⟨rfl, hq⟩ := hf
    exact ⟨_, rfl, wpAny_pure ⟨_, rfl, hq⟩⟩
end

/-! ### values and what they stand for -/
section
variable {K : W.Frag} {N : Addr → Prop} {H : Hp}
def StD (K : W.Frag) (N : Addr → Prop) (H : Hp) (u : Value) (d : D) : Prop := ∃ x, RelV x u ∧ RelD K N H d x
theorem each_of : ∀ {ds : List D} {vs : List V} {us : List Value}, RelL K N H ds vs → Vals vs us → W.EachIs (StD K N H) us ds
  | _, _, _, .nil, .nil => .nil
  | _, _, _, .cons r t, .cons q z => .cons ⟨_, q, r⟩ (each_of t z)
theorem of_each : ∀ {ds : List D} {us : List Value}, W.EachIs (StD K N H) us ds → ∃ vs, Vals vs us ∧ RelL K N H ds vs
  | _, _, .nil => ⟨[], .nil, .nil⟩
  | _, _, .cons ⟨x, q, r⟩ t => let ⟨vs, a, b⟩ := of_each t; ⟨x :: vs, .cons q a, .cons r b⟩
theorem each_perm {R : Value → D → Prop} {us us' : List Value} (p : us.Perm us') : ∀ {ds : List D}, W.EachIs R us ds → ∃ ds', ds.Perm ds' ∧ W.EachIs R us' ds' := by
  induction p with
  | nil => intro ds h; exact ⟨ds, .refl _, h⟩
  | cons a p ih =>
    intro ds h
    cases h with
    | cons r t =>
      obtain ⟨ds', p', e⟩ := ih t
      exact ⟨_ :: ds', p'.cons _, .cons r e⟩
  | swap a b l =>
    intro ds h
    cases h with
    | cons r t => cases t with
      | cons r2 t2 => exact ⟨_, .swap _ _ _, .cons r2 (.cons r t2)⟩
  | trans p q ih1 ih2 =>
    intro ds h
    obtain ⟨d1, p1, e1⟩ := ih1 h
    obtain ⟨d2, p2, e2⟩ := ih2 e1
    exact ⟨d2, p1.trans p2, e2⟩
end
section
variable {tt : TTs} {X : Cx} {pins : List (Addr × Obj)} {σ : L2.St} {H : Hp} {s : Shared} {N : Addr → Prop}
/-- a new list laid, in whatever state behind -/
theorem Inv.laidS {a : Addr} {o : HO} {s' : Shared} (I : Inv X pins σ H s) (os : s'.os = s.os) (g : s'.gens = s.gens) (k : ∀ b u, s.heap.get? b = some u → s'.heap.get? b = some u) (hp : s.heap.objs.size ≤ a) (new : ObjOk X.prog X.w (upd H a o) s'.heap a o) :
    Inv X pins σ (upd H a o) s' := I.call' (ch := []) os (Un.laid k hp (I.hok.fresh hp)) (I.hok.laid k hp new) (g ▸ I.bare) (fun _ z => absurd z (by simp))
theorem reads_of (I : Inv X pins σ H s) {u : Value} {d : D} (ho : okD d = true) (h : StD X.K N H u d) : ∃ as, Reads s.heap u d as := by
  obtain ⟨x, q, r⟩ := h
  exact Dp.reads I d x u (RelD.dp _ _ ho r) q
/-- may be sorted: the machine's words -/
theorem sortOk_fine {ds : List D} (h : sortOk ds = true) : ∀ d ∈ ds, fine d = true := by
  simp only [sortOk, Bool.and_eq_true, List.all_eq_true] at h
  exact h.1.2
theorem sortOk_alike {ds : List D} (h : sortOk ds = true) : W.AllAlike ds := by
  simp only [sortOk, Bool.and_eq_true, List.all_eq_true] at h
  exact fun d hd d' hd' => h.1.1 d hd d' hd'
end

section
variable {prog : Program} {w : World} {A : Around} {E : Value → Shared → Prop} {s : Shared}
theorem sortsAt_ok {vs : List Value} {ds : List D} (e : W.EachIs (fun v d => ∃ as, Reads s.heap v d as) vs ds) (hs : sortOk ds = true) (hu : A.units + 50 < cLine) : W.SortsAt prog w A s (W.dataKind s.heap ds) vs := by
  have hal := sortOk_alike hs
  have hud : ∀ d, d ∈ ds → A.units + d.depth < cLine := fun d hd => by have := (fine_parts (sortOk_fine hs d hd)).2.2; omega
  have h3 := hs
  simp only [sortOk, Bool.and_eq_true, Bool.or_eq_true, List.all_eq_true] at h3
  rcases h3.2 with h | h
  · refine sortsAt_tups e hal (fun d hd => ?_) hud
    have q := h d hd
    split at q
    · exact ⟨_, rfl⟩
    · cases q
  · refine W.SortsAt.data e hal (.inr fun d hd => ?_) hud
    have q := h d hd
    split at q
    · cases q
    · cases q
    · rename_i n1 n2
      exact ⟨n1, n2⟩
end

section
variable {tt : TTs} {X : Cx}
theorem items_rel {K : W.Frag} {N : Addr → Prop} {H : Hp} {d : D} {x : V} {ds : List D} (h : RelT K N H d x) (hi : itemsD d = some ds) : ∃ a vs, x = .ref a ∧ (SqL K H a vs ∨ SqT K H a vs) ∧ RelL K N H ds vs := by
  cases d with
  | list es => cases hi; obtain ⟨a, vs, e, h1, h2⟩ := h.list; exact ⟨a, vs, e, .inl h1.seq, h2⟩
  | tuple es => cases hi; obtain ⟨a, vs, e, h1, h2⟩ := h.tuple; exact ⟨a, vs, e, .inr h1, h2⟩
  | _ => cases hi
theorem vals_one {x : V} {us : List Value} (r : Vals [x] us) : ∃ u, us = [u] ∧ RelV x u := by
  cases r with
  | cons q t => cases t; exact ⟨_, rfl, q⟩
theorem each_and {α β : Type} {R : α → β → Prop} {P : β → Prop} {vs : List α} {ds : List β} (e : W.EachIs R vs ds) (h : ∀ d ∈ ds, P d) : W.EachIs (fun v d => R v d ∧ P d) vs ds := by
  induction e with
  | nil => exact .nil
  | cons a b ih => exact .cons ⟨a, h _ List.mem_cons_self⟩ (ih fun d hd => h d (List.mem_cons_of_mem _ hd))
/-- the sort of a fresh list -/
theorem sort_new {pins : List (Addr × Obj)} {σ : L2.St} {H : Hp} {s s1 : Shared} {N : Addr → Prop} {Q : VK} {A : Around} {vs : List Value} {ds : List D} (I : Inv X pins σ H s) (os : s1.os = s.os) (g : s1.gens = s.gens) (k : ∀ b u, s.heap.get? b = some u → s1.heap.get? b = some u)
    (hz : s.heap.objs.size ≤ s1.heap.objs.size) (e : W.EachIs (StD X.K N H) vs ds) (hs : sortOk ds = true) (hu : A.units + 50 < cLine) (hL : vs.length ≤ sizeLine)
    (q : ∀ p ws, H p = none → RelL X.K N H (sortD ds) ws → Q (.ref p) (upd H p (.lst ws))) (E' : Value → Shared → Prop) :
    wpAny (model X.prog X.w) A (Builtin.«list.sort» ⟨[.ref s1.heap.objs.size], []⟩) (fun f s' => f = .done (.ret .none) ∧ EP X pins σ Q (.ref s1.heap.objs.size) s') E' { s1 with heap := s1.heap.push (seqObj "list" vs.toArray 0) } := by
  have ho : (s1.heap.push (seqObj "list" vs.toArray 0)).get? s1.heap.objs.size = some (seqObj "list" vs.toArray 0) := Heap.get?_push_size _ rfl
  have kp : ∀ b u, s.heap.get? b = some u → (W.sortingHeap (s1.heap.push (seqObj "list" vs.toArray 0)) s1.heap.objs.size vs).get? b = some u := fun b u h =>
    W.sortingHeap_old (Nat.ne_of_lt (Heap.lt_size (k b u h))) (Heap.get?_push_of_some _ (k b u h))
  have er : W.EachIs (fun v d => ∃ as, Reads (W.sortingHeap (s1.heap.push (seqObj "list" vs.toArray 0)) s1.heap.objs.size vs) v d as) vs ds := (each_and e fun d hd => fine_okD (sortOk_fine hs d hd)).mono fun v d h => by
    obtain ⟨as, r⟩ := reads_of I h.2 h.1
    exact ⟨as, PyProof.Rows.Reads.keeps kp r⟩
  have eo := W.sortVals_data (h' := W.sortingHeap (s1.heap.push (seqObj "list" vs.toArray 0)) s1.heap.objs.size vs) (enc := id) false e er (by simpa using sortOk_alike hs)
  have es : List.map id ds = ds := List.map_id ds
  rw [es] at eo
  refine W.list_sort_vals (s := { s1 with heap := s1.heap.push (seqObj "list" vs.toArray 0) }) ho (sortsAt_ok er hs hu) hL ⟨rfl, ?_⟩
  revert eo
  generalize W.sortVals (W.dataKind (W.sortingHeap (s1.heap.push (seqObj "list" vs.toArray 0)) s1.heap.objs.size vs) ds) false vs vs = out
  intro eo
  obtain ⟨ws, rv, rl⟩ := of_each eo
  obtain ⟨c, hc⟩ := sortedHeap_at (vs := vs) (out := out.toArray) ho
  have hn : H s1.heap.objs.size = none := I.hok.fresh hz
  have kk : ∀ b u, s.heap.get? b = some u → (sortedHeap (s1.heap.push (seqObj "list" vs.toArray 0)) s1.heap.objs.size vs out.toArray).get? b = some u := fun b u h => by
    have hlt := Heap.lt_size (k b u h)
    rw [sortedHeap_old (Nat.ne_of_lt hlt) (by rw [size_push']; exact Nat.lt_succ_of_lt hlt)]
    exact Heap.get?_push_of_some _ (k b u h)
  have hwl : ws.length ≤ sizeLine := by
    rw [← rl.length]
    have : (ds.mergeSort (W.dataLe false id)).length = ds.length := List.length_mergeSort _
    rw [this, ← e.length]; exact hL
  have J : Inv X pins σ (upd H s1.heap.objs.size (.lst ws)) { s1 with heap := sortedHeap (s1.heap.push (seqObj "list" vs.toArray 0)) s1.heap.objs.size vs out.toArray } :=
    Inv.laidS I os g kk hz ⟨hwl, out, c, rv, hc⟩
  exact ⟨.ref _, _, J, rfl, q _ ws hn rl⟩
def rSortA (K : W.Frag) : List V → Hp → VK → Prop := fun xs H Q => ∃ x d ds N, xs = [x] ∧ RelT K N H d x ∧ itemsD d = some ds ∧ sortOk ds = true ∧ ∀ z H', Res K N H (.new (sortD ds)) z H' → Q z H'
theorem cr_sortA (hu : X.A.units + 64 < cLine) : CallR X (.builtin "sorted") (rSortA X.K) := by
  intro pins s σ H xs us Q I r h
  obtain ⟨x, d, ds, N, rfl, hx, hi, hs, q⟩ := h
  obtain ⟨u, rfl, ru⟩ := vals_one r
  obtain ⟨a, vs, rfl, hq, rl⟩ := items_rel hx hi
  cases ru
  have hin : X.A.in1.in1.units + 50 < cLine := by show X.A.units + 1 + 1 + 50 < cLine; omega
  refine sorted_shell (args_sorted1 _) (fun _ => args_list_sort _) ?_
  have go : ∀ (its : List Value) (h1 : Heap), Vals vs its → vs.length ≤ sizeLine → (∀ b u, s.heap.get? b = some u → h1.get? b = some u) → s.heap.objs.size ≤ h1.objs.size → its.length ≤ sizeLine ∧ ∀ E' : Value → Shared → Prop,
      wpAny (model X.prog X.w) X.A.in1.in1 (Builtin.«list.sort» ⟨[.ref h1.objs.size], []⟩) (fun f s' => f = .done (.ret .none) ∧ EP X pins σ Q (.ref h1.objs.size) s') E' { s with heap := h1.push (seqObj "list" its.toArray 0) } := fun its h1 rv hz k hsz =>
    ⟨by rw [← rv.length]; exact hz, fun E' => sort_new (s1 := { s with heap := h1 }) I rfl rfl k hsz (each_of rl rv) hs hin (by rw [← rv.length]; exact hz) (fun p ws hp rw => q _ _ (res_new hp rw)) E'⟩
  have up : ∀ (its : List Value) b u, s.heap.get? b = some u → ((s.heap.push (seqObj "list" #[] 0)).update s.heap.objs.size (Obj.mapSeq (· ++ its.toArray))).get? b = some u := fun its b u h => by
    rw [Heap.get?_update_ne _ _ _ _ (Nat.ne_of_lt (Heap.lt_size h))]
    exact Heap.get?_push_of_some _ h
  have sz : ∀ (its : List Value), s.heap.objs.size ≤ ((s.heap.push (seqObj "list" #[] 0)).update s.heap.objs.size (Obj.mapSeq (· ++ its.toArray))).objs.size := fun its => by
    rw [Heap.size_update, size_push']; exact Nat.le_succ _
  rcases hq with hq | hq
  · obtain ⟨its, rv, pl, hz⟩ := I.list hq
    exact collect_list (A := X.A.in1) pl.isList (go its _ rv hz (up its) (sz its)) (by rw [← rv.length]; exact hz)
  · obtain ⟨its, rv, pl, hz⟩ := I.tuple hq
    exact collect_tuple (A := X.A.in1) pl (go its _ rv hz (up its) (sz its)) (by rw [← rv.length]; exact hz)
end
end Py
end
section
set_option Elab.async false
set_option linter.all false
set_option autoImplicit false
set_option maxRecDepth 100000
/-! Rules, 3: built-ins by values. -/
namespace Py
open PySem PySem.Spec PyProof.Rows L2

section
variable {K : W.Frag} {N : Addr → Prop} {H : Hp}
theorem rel_bools : ∀ {ds : List D} {bs : List Bool} {vs : List V}, boolsD ds = some bs → RelL K N H ds vs → vs = bs.map V.bl
  | [], bs, _, h, .nil => by cases h; rfl
  | d :: ds, bs, _, h, .cons r t => by
    cases r with
    | bl b =>
      simp only [boolsD] at h
      cases e : boolsD ds with
      | none => rw [e] at h; cases h
      | some cs => rw [e] at h; cases h; rw [rel_bools e t]; rfl
    | _ => simp [boolsD] at h
theorem rel_ints : ∀ {ds : List D} {is : List Int} {vs : List V}, intsD ds = some is → RelL K N H ds vs → vs = is.map V.int
  | [], is, _, h, .nil => by cases h; rfl
  | d :: ds, is, _, h, .cons r t => by
    cases r with
    | int b =>
      simp only [intsD] at h
      cases e : intsD ds with
      | none => rw [e] at h; cases h
      | some cs => rw [e] at h; cases h; rw [rel_ints e t]; rfl
    | _ => simp [intsD] at h
end
theorem foldl_max_mem : ∀ (r : List Int) (i : Int), r.foldl max i ∈ i :: r
  | [], i => by simp
  | a :: r, i => by
    have h := foldl_max_mem r (max i a)
    rw [List.foldl_cons]
    rcases List.mem_cons.mp h with e | h
    · rw [e]; by_cases q : i ≤ a
      · rw [Int.max_eq_right q]; simp
      · rw [Int.max_eq_left (by omega)]; simp
    · simp [h]
theorem foldl_max_ge : ∀ (r : List Int) (i : Int), ∀ y ∈ i :: r, y ≤ r.foldl max i
  | [], i, y, h => by simp at h; simp [h]
  | a :: r, i, y, h => by
    rw [List.foldl_cons]
    have g := foldl_max_ge r (max i a)
    rcases List.mem_cons.mp h with rfl | h
    · exact Int.le_trans (Int.le_max_left _ _) (g _ List.mem_cons_self)
    · rcases List.mem_cons.mp h with rfl | h
      · exact Int.le_trans (Int.le_max_right _ _) (g _ List.mem_cons_self)
      · exact g _ (List.mem_cons_of_mem _ h)
theorem foldl_min_mem : ∀ (r : List Int) (i : Int), r.foldl min i ∈ i :: r
  | [], i => by simp
  | a :: r, i => by
    have h := foldl_min_mem r (min i a)
    rw [List.foldl_cons]
    rcases List.mem_cons.mp h with e | h
    · rw [e]; by_cases q : i ≤ a
      · rw [Int.min_eq_left q]; simp
      · rw [Int.min_eq_right (by omega)]; simp
    · simp [h]
theorem foldl_min_le : ∀ (r : List Int) (i : Int), ∀ y ∈ i :: r, r.foldl min i ≤ y
  | [], i, y, h => by simp at h; simp [h]
  | a :: r, i, y, h => by
    rw [List.foldl_cons]
    have g := foldl_min_le r (min i a)
    rcases List.mem_cons.mp h with rfl | h
    · exact Int.le_trans (g _ List.mem_cons_self) (Int.min_le_left _ _)
    · rcases List.mem_cons.mp h with rfl | h
      · exact Int.le_trans (g _ List.mem_cons_self) (Int.min_le_right _ _)
      · exact g _ (List.mem_cons_of_mem _ h)

def B1.val : B1 → Value
  | .len => .builtin "len" | .all => .builtin "all" | .any => .builtin "any" | .sorted => .builtin "sorted" | .tuple => .type "tuple" | .list => .type "list"
  | .max => .builtin "max" | .min => .builtin "min" | .sum => .builtin "sum" | .abs => .builtin "abs" | .int => .type "int"
def rB1 (K : W.Frag) (b : B1) : List V → Hp → VK → Prop := fun xs H Q => ∃ x d r N, xs = [x] ∧ RelT K N H d x ∧ b1M b d = some r ∧ ∀ z H', Res K N H r z H' → Q z H'
theorem map_some {α β : Type} {o : Option α} {f : α → β} {b : β} (h : o.map f = some b) : ∃ a, o = some a ∧ f a = b := by
  cases o with
  | none => cases h
  | some a => exact ⟨a, rfl, Option.some.inj h⟩
theorem cr_b1 {X : Cx} (hc : X.calm = true) (hu : X.A.units + 64 < cLine) (b : B1) : CallR X b.val (rB1 X.K b) := by
  intro pins s σ H xs us Q I rv h
  obtain ⟨x, d, r, N, rfl, hx, hb, q⟩ := h
  cases b with
  | len =>
    obtain ⟨n, hn, rfl⟩ := map_some hb
    refine call_len pins s σ H [x] us Q I rv ⟨x, n, rfl, ?_, q _ _ (res_dt (.int _))⟩
    cases d with
    | list ds =>
      cases hn; obtain ⟨a, vs, rfl, h1, h2⟩ := hx.list
      exact .inl ⟨vs, h1.seq, h2.length⟩
    | tuple ds =>
      cases hn; obtain ⟨a, vs, rfl, h1, h2⟩ := hx.tuple
      exact .inr ⟨vs, h1, h2.length⟩
    | str z =>
      obtain ⟨h1, rfl⟩ := iteS hn; obtain rfl := hx.str
      exact ⟨h1, rfl⟩
    | _ => cases hn
  | all =>
    cases d with
    | list ds =>
      obtain ⟨bs, hbs, rfl⟩ := map_some hb; obtain ⟨a, vs, rfl, h1, h2⟩ := hx.list
      exact cr_all hc pins s σ H _ us Q I rv ⟨a, bs, rfl, (rel_bools hbs h2 ▸ h1).seq, q _ _ (res_dt (.bl _))⟩
    | _ => cases hb
  | any =>
    cases d with
    | list ds =>
      obtain ⟨bs, hbs, rfl⟩ := map_some hb; obtain ⟨a, vs, rfl, h1, h2⟩ := hx.list
      exact cr_any hc pins s σ H _ us Q I rv ⟨a, bs, rfl, (rel_bools hbs h2 ▸ h1).seq, q _ _ (res_dt (.bl _))⟩
    | _ => cases hb
  | sorted =>
    simp only [b1M] at hb
    split at hb
    · rename_i ds hi
      obtain ⟨hs, rfl⟩ := if_some hb
      exact cr_sortA hu pins s σ H _ us Q I rv ⟨x, d, ds, N, rfl, hx, hi, hs, q⟩
    · cases hb
  | tuple =>
    simp only [b1M] at hb
    split at hb
    · rename_i ds hi
      cases hb
      obtain ⟨a, vs, rfl, h1, h2⟩ := items_rel hx hi
      refine call_tuple_of pins s σ H _ us Q I rv ⟨a, vs, rfl, ?_⟩
      rcases h1 with h1 | h1
      · exact .inl ⟨h1, fun l hl => q _ _ (res_tup hl h2)⟩
      · exact .inr ⟨h1, q _ _ (res_dt (.tup h1 h2))⟩
    · cases hb
  | list =>
    simp only [b1M] at hb
    split at hb
    · rename_i ds hi
      cases hb
      obtain ⟨a, vs, rfl, h1, h2⟩ := items_rel hx hi
      exact call_list_of pins s σ H _ us Q I rv ⟨a, vs, rfl, h1, fun l hl => q _ _ (res_new hl h2)⟩
    · cases hb
  | max =>
    cases d with
    | list ds =>
      simp only [b1M] at hb
      split at hb
      · rename_i i r' hi
        cases hb
        obtain ⟨a, vs, rfl, h1, h2⟩ := hx.list
        refine cr_max hc pins s σ H _ us Q I rv ⟨a, i :: r', rfl, (rel_ints hi h2 ▸ h1).seq, by simp, fun m hm hge => ?_⟩
        have e : m = r'.foldl max i := Int.le_antisymm (foldl_max_ge r' i m hm) (hge _ (foldl_max_mem r' i))
        rw [e]; exact q _ _ (res_dt (.int _))
      · cases hb
    | _ => cases hb
  | min =>
    cases d with
    | list ds =>
      simp only [b1M] at hb
      split at hb
      · rename_i i r' hi
        cases hb
        obtain ⟨a, vs, rfl, h1, h2⟩ := hx.list
        refine cr_min hc pins s σ H _ us Q I rv ⟨a, i :: r', rfl, (rel_ints hi h2 ▸ h1).seq, by simp, fun m hm hge => ?_⟩
        have e : m = r'.foldl min i := Int.le_antisymm (hge _ (foldl_min_mem r' i)) (foldl_min_le r' i m hm)
        rw [e]; exact q _ _ (res_dt (.int _))
      · cases hb
    | _ => cases hb
  | sum =>
    cases d with
    | list ds =>
      obtain ⟨is, hi, rfl⟩ := map_some hb; obtain ⟨a, vs, rfl, h1, h2⟩ := hx.list
      exact cr_sum hc pins s σ H _ us Q I rv ⟨a, is, rfl, (rel_ints hi h2 ▸ h1).seq, q _ _ (res_dt (.int _))⟩
    | _ => cases hb
  | abs =>
    cases d with
    | int i =>
      cases hb; obtain rfl := hx.int
      refine call_abs pins s σ H _ us Q I rv ⟨i, rfl, ?_⟩
      have e : (if i < 0 then -i else i) = (i.natAbs : Int) := by split <;> omega
      rw [e]; exact q _ _ (res_dt (.int _))
    | _ => cases hb
  | int =>
    cases d with
    | int i =>
      cases hb; obtain rfl := hx.int
      exact call_int1 pins s σ H _ us Q I rv (.inl ⟨i, rfl, q _ _ (res_dt (.int _))⟩)
    | bool k =>
      cases hb; obtain rfl := hx.bool
      exact call_int1 pins s σ H _ us Q I rv (.inr ⟨k, rfl, q _ _ (res_dt (.int _))⟩)
    | _ => cases hb
def B2.val : B2 → Value
  | .max => .builtin "max" | .min => .builtin "min"
def rB2 (K : W.Frag) (b : B2) : List V → Hp → VK → Prop := fun xs H Q => ∃ x y d e r N, xs = [x, y] ∧ RelT K N H d x ∧ RelT K N H e y ∧ b2M b d e = some r ∧ ∀ z H', Res K N H r z H' → Q z H'
theorem cr_b2 {X : Cx} (hc : X.calm = true) (b : B2) : CallR X b.val (rB2 X.K b) := by
  intro pins s σ H xs us Q I rv h
  obtain ⟨x, y, d, e, r, N, rfl, hx, hy, hb, q⟩ := h
  cases b <;> cases d <;> cases e <;> simp only [b2M] at hb <;> first | (cases hb; done) | skip
  · cases hb; obtain rfl := hx.int; obtain rfl := hy.int
    exact call_max2 hc pins s σ H _ us Q I rv ⟨_, _, rfl, q _ _ (res_dt (.int _))⟩
  · cases hb; obtain rfl := hx.int; obtain rfl := hy.int
    exact call_min2 hc pins s σ H _ us Q I rv ⟨_, _, rfl, q _ _ (res_dt (.int _))⟩


/-! ### isinstance -/
def Ty.tn : Ty → String
  | .int => "int" | .bool => "bool" | .str => "str" | .tuple => "tuple" | .list => "list"
def rIsiD (K : W.Frag) : List V → Hp → VK → Prop := fun xs H Q => ∃ x d t, xs = [x, .ty (Ty.tn t)] ∧ Dp K H x d ∧ d.plain = true ∧ Q (.bl (t.has d)) H
theorem cr_isiD {X : Cx} : CallR X (.builtin "isinstance") (rIsiD X.K) := by
  intro pins s σ H xs us Q I rv h
  obtain ⟨x, d, t, rfl, hx, hp, q⟩ := h
  cases rv with
  | cons r1 r2 =>
    cases r2 with
    | cons r2 r3 =>
      cases r3
      cases r2
      obtain ⟨as, rd⟩ := Dp.reads I d x _ hx r1
      have fin : ∀ tk, EP X pins σ Q (.bool (t.has d)) { s with toks := tk } := fun tk => ⟨.bl _, H, I.tok tk, rfl, q⟩
      cases t with
      | int => exact W.isinstance_int_data rd fun tk _ => by have h := fin tk; cases d <;> first | exact h | cases hp
      | bool => exact W.isinstance_bool_data rd fun tk _ => by have h := fin tk; cases d <;> first | exact h | cases hp
      | str => exact W.isinstance_str_data rd fun tk _ => by have h := fin tk; cases d <;> first | exact h | cases hp
      | tuple => exact W.isinstance_tuple_data rd fun tk _ => by have h := fin tk; cases d <;> first | exact h | cases hp
      | list => exact W.isinstance_list_data rd fun tk _ => by have h := fin tk; cases d <;> first | exact h | cases hp
end Py
end
section
set_option Elab.async false
set_option linter.all false
set_option autoImplicit false
set_option maxRecDepth 100000
/-! Rules, 4: expressions. -/
namespace Py
open PySem PySem.Spec PyProof.Rows L2

section
variable {K : W.Frag} {tt : TTs} {G : Gh tt} {ρ ρ' : Fr} {hs hs' hs1 es : List Ent} {σ : L2.St} {H H' : Hp} {Q : VK}
theorem T.mono {tt : TTs} {m : Fr → Out R} {Q Q' : VK} (h : T tt K m σ H Q) (w : ∀ x H, Q x H → Q' x H) : T tt K m σ H Q' := by
  obtain ⟨G, ρ, hs, S, h⟩ := h
  refine ⟨G, ρ, hs, S, ?_⟩
  cases e : m ρ with
  | ok r ρ1 => rw [e] at h; exact fun x H S a => w _ _ (h x H S a)
  | ex C d => rw [e] at h; exact h
  | no => rw [e] at h; exact h
theorem TB.mono {tt : TTs} {m : Fr → Out Bool} {Q Q' : Bool → Hp → Prop} (h : TB tt K m σ H Q) (w : ∀ x H, Q x H → Q' x H) : TB tt K m σ H Q' := by
  obtain ⟨G, ρ, hs, S, h⟩ := h
  refine ⟨G, ρ, hs, S, ?_⟩
  cases e : m ρ with
  | ok r ρ1 => rw [e] at h; exact fun H S => w _ _ (h H S)
  | ex C d => rw [e] at h; exact h
  | no => rw [e] at h; exact h
theorem TD.mono {tt : TTs} {m : Fr → Out D} {Q Q' : VK} (h : TD tt K m σ H Q) (w : ∀ x H, Q x H → Q' x H) : TD tt K m σ H Q' := by
  obtain ⟨G, ρ, hs, S, h⟩ := h
  refine ⟨G, ρ, hs, S, ?_⟩
  cases e : m ρ with
  | ok r ρ1 => rw [e] at h; exact fun x H S => w _ _ (h x H S)
  | ex C d => rw [e] at h; exact h
  | no => rw [e] at h; exact h
theorem TL.mono {m : Fr → Out (List D)} {Q Q' : List V → Hp → Prop} (h : TL tt K m σ H Q) (w : ∀ x H, Q x H → Q' x H) : TL tt K m σ H Q' := by
  obtain ⟨G, ρ, hs, S, h⟩ := h
  refine ⟨G, ρ, hs, S, ?_⟩
  cases e : m ρ with
  | ok r ρ1 => rw [e] at h; exact fun x es H E S => w _ _ (h x es H E S)
  | ex C d => rw [e] at h; exact h
  | no => rw [e] at h; exact h
theorem TR.mono {m : Fr → Out (List R)} {Q Q' : List V → Hp → Prop} (h : TR tt K m σ H Q) (w : ∀ x H, Q x H → Q' x H) : TR tt K m σ H Q' := by
  obtain ⟨G, ρ, hs, S, h⟩ := h
  refine ⟨G, ρ, hs, S, ?_⟩
  cases e : m ρ with
  | ok r ρ1 => rw [e] at h; exact fun x es H E S => w _ _ (h x es H E S)
  | ex C d => rw [e] at h; exact h
  | no => rw [e] at h; exact h
theorem FinR.no {Q : VK} : EndsX (FinR K G hs σ Q) (FinX K G) := ⟨fun h => h, fun _ _ h => h⟩
theorem FinB.no {Q : Bool → Hp → Prop} : EndsX (FinB K G hs σ Q) (FinX K G) := ⟨fun h => h, fun _ _ h => h⟩
theorem FinD.no {Q : VK} : EndsX (FinD K G hs σ Q) (FinX K G) := ⟨fun h => h, fun _ _ h => h⟩
theorem FinL.no {Q : List V → Hp → Prop} : EndsX (FinL K G hs σ Q) (FinX K G) := ⟨fun h => h, fun _ _ h => h⟩
theorem FinRs.no {Q : List V → Hp → Prop} : EndsX (FinRs K G hs σ Q) (FinX K G) := ⟨fun h => h, fun _ _ h => h⟩
theorem Sim.growAll (S : Sim K G ρ hs σ H) (k : ∀ b u, H b = some u → H' b = some u) : Sim K G ρ hs σ H' := by
  refine ⟨S.len, S.sp.grow (fun b u e _ => k b u e), fun b u e t n => k b u (S.frm b u e t n), fun b e => (S.trk b e).keep fun o q _ => k b o q, S.ow, S.br, S.tabs.ext k, S.io⟩
/-- a new result beside what is held -/
theorem Sim.res {r : R} {z : V} (S : Sim K G ρ (es ++ hs) σ H) (q : Res K (NS G ρ (es ++ hs) σ) H r z H') : Sim K G ρ (ents r z ++ hs) σ H' ∧ sameAt r z σ := by
  cases r with
  | dt d =>
    obtain ⟨k, rd⟩ := q
    exact ⟨((S.growAll k).push_dt rd).held ((List.sublist_append_right es hs).cons_cons _) (.refl _), trivial⟩
  | new ds =>
    obtain ⟨a, vs, rfl, hn, rfl, rl⟩ := q
    exact ⟨(S.push_new hn rl).held ((List.sublist_append_right es hs).cons_cons _) (.refl _), trivial⟩
  | sl i => exact q.elim
theorem ents_mem {r : R} {x : V} {l m : List Ent} : ∀ p ∈ ents r x, p ∈ l ++ (ents r x ++ m) := fun p hp => List.mem_append_right _ (List.mem_append_left _ hp)
end

section
variable {tt : TTs} {X : Cx} {a b c : Expr} {ma mb mc : Fr → Out R} {p : Pos}
theorem se_var {i : Nat} {x : Str} (hN : X.N[i]? = some x) (hv : Vis X.env.scope x) (hd : (x == ("__debug__" : Str)) = false) (hcd : (x == ("__classdict__" : Str)) = false) :
    PE X (.Name x p) (T tt X.K (varM i)) := by
  refine pe_imp (pe_var hN hv hd hcd) fun σ H Q ⟨G, ρ, hs, S, h⟩ => ?_
  unfold varM at h
  split at h
  · exact h.elim
  · rename_i s hn hs'
    cases s with
    | no => exact (hn rfl).elim
    | val d => obtain ⟨v, e, _⟩ := S.valAt hs'; exact ⟨v, e, h v H S e⟩
    | own ds => obtain ⟨a, _, e, _⟩ := S.ownAt hs'; exact ⟨_, e, h _ H S e⟩
  · exact h.elim
theorem se_const {v : V} {d : D} {e : Expr} (h : PE X e (tC v)) (r : ∀ N H, RelD X.K N H d v) : PE X e (T tt X.K fun ρ => .ok (.dt d) ρ) :=
  pe_imp h fun σ H Q ⟨G, ρ, hs, S, h⟩ => h v H (S.push_dt (r _ _)) trivial
theorem se_int {n : Int} {k : Nat} : PE X (.Constant (.int n) k p) (T tt X.K fun ρ => .ok (.dt (.int n)) ρ) := se_const pe_int fun _ _ => .int _
theorem se_bl {n : Bool} {k : Nat} : PE X (.Constant (.bool n) k p) (T tt X.K fun ρ => .ok (.dt (.bool n)) ρ) := se_const pe_bl fun _ _ => .bl _
theorem se_non {k : Nat} : PE X (.Constant .none k p) (T tt X.K fun ρ => .ok (.dt .none) ρ) := se_const pe_non fun _ _ => .non
theorem se_str {n : Str} {k : Nat} : PE X (.Constant (.str n) k p) (T tt X.K fun ρ => .ok (.dt (.str n)) ρ) := se_const pe_str fun _ _ => .str _
theorem se_glI {x : Str} {n : Int} {t : Tok} (hg : Gl X x) (hm : X.mg x = some (.int n t)) (hd : (x == ("__debug__" : Str)) = false) : PE X (.Name x p) (T tt X.K fun ρ => .ok (.dt (.int n)) ρ) :=
  se_const (pe_glob (v := .int n) hg hm ⟨_, rfl⟩ hd) fun _ _ => .int _
/-- two results, then an answer by what they read -/
theorem two {f : D → D → Option R} {σ : L2.St} {H : Hp} {Q : VK} {r : R2} (h : T tt X.K (fun ρ => (ma ρ).bind fun x ρ => (mb ρ).bind fun y ρ => ask ((x.look ρ).bind fun x => (y.look ρ).bind fun y => f x y) ρ) σ H Q)
    (hr : ∀ N d e q x y H, RelT X.K N H d x → RelT X.K N H e y → f d e = some q → (∀ z H', Res X.K N H q z H' → Q z H') → r x y H Q) : tOp r (T tt X.K ma) (T tt X.K mb) σ H Q := by
  obtain ⟨G, ρ, hs, S, h⟩ := h
  refine T.mono (T.ask S (bind_split FinR.no h)) fun x H1 ⟨rx, ρ1, S1, a1, h1⟩ => ?_
  refine T.mono (T.ask S1 (bind_split FinR.no h1)) fun y H2 ⟨ry, ρ2, S2, a2, h2⟩ => ?_
  obtain ⟨q, e, h3⟩ := FinR.asked h2
  obtain ⟨d, hd, e⟩ := Option.bind_eq_some_iff.mp e
  obtain ⟨d', hd', e⟩ := Option.bind_eq_some_iff.mp e
  rw [← List.append_assoc] at S2
  refine hr (NS G ρ2 ((ents ry y ++ ents rx x) ++ hs) σ) d d' q x y H2 (S2.look (r := rx) (fun p hp => by simp [hp]) a1 hd) (S2.look (r := ry) (fun p hp => by simp [hp]) a2 hd') e fun z H' res => ?_
  obtain ⟨S3, a3⟩ := S2.res res
  exact h3 z H' S3 a3
theorem se_bin {op : Operator} (ha : PE X a (T tt X.K ma)) (hb : PE X b (T tt X.K mb)) :
    PE X (.BinOp a op b p) (T tt X.K fun ρ => (ma ρ).bind fun x ρ => (mb ρ).bind fun y ρ => ask ((x.look ρ).bind fun x => (y.look ρ).bind fun y => binop op x y) ρ) :=
  pe_imp (pe_op (op_bin op) ha hb) fun σ H Q h => two h fun N d e q x y H h1 h2 h3 h4 => ⟨N, d, e, q, h1, h2, h3, h4⟩

theorem se_neg (ha : PE X a (T tt X.K ma)) : PE X (.UnaryOp .USub a p) (T tt X.K fun ρ => (ma ρ).bind fun x ρ => match x.look ρ with | some (.int i) => .ok (.dt (.int (-i))) ρ | _ => .no) := by
  refine pe_imp (pe_un un_neg ha) fun σ H Q ⟨G, ρ, hs, S, h⟩ => ?_
  refine T.mono (T.ask S (bind_split FinR.no h)) fun x H1 ⟨rx, ρ1, S1, a1, h1⟩ => ?_
  split at h1
  · rename_i i e
    have q := (S1.look (fun p hp => List.mem_append_left _ hp) a1 e).int
    subst q
    exact ⟨i, rfl, h1 _ _ (S1.drops.push_dt (.int _)) trivial⟩
  · exact h1.elim
theorem two_test {f : D → D → Option Bool} {σ : L2.St} {H : Hp} {Q : Bool → Hp → Prop} {r : R2} (h : TB tt X.K (fun ρ => (ma ρ).bind fun x ρ => (mb ρ).bind fun y ρ => ask ((x.look ρ).bind fun x => (y.look ρ).bind fun y => f x y) ρ) σ H Q)
    (hr : ∀ N d e q x y H (Q' : VK), RelT X.K N H d x → RelT X.K N H e y → f d e = some q → Q' (.bl q) H → r x y H Q') : tTest (tOp r (T tt X.K ma) (T tt X.K mb)) σ H Q := by
  obtain ⟨G, ρ, hs, S, h⟩ := h
  refine T.mono (T.ask S (bind_split FinB.no h)) fun x H1 ⟨rx, ρ1, S1, a1, h1⟩ => ?_
  refine T.mono (T.ask S1 (bind_split FinB.no h1)) fun y H2 ⟨ry, ρ2, S2, a2, h2⟩ => ?_
  obtain ⟨q, e, h3⟩ := FinB.asked h2
  obtain ⟨d, hd, e⟩ := Option.bind_eq_some_iff.mp e
  obtain ⟨d', hd', e⟩ := Option.bind_eq_some_iff.mp e
  rw [← List.append_assoc] at S2
  exact hr _ d d' q x y H2 _ (S2.look (r := rx) (fun p hp => by simp [hp]) a1 hd) (S2.look (r := ry) (fun p hp => by simp [hp]) a2 hd') e ⟨q, rfl, h3 H2 S2.drops⟩
theorem se_cmp (hu : X.A.units + 64 < cLine) {op : CmpOp} (ha : PE X a (T tt X.K ma)) (hb : PE X b (T tt X.K mb)) (hm : behindInMarks op b = false) :
    PE X (.Compare a [op] [b] p) (T tt X.K fun ρ => (ma ρ).bind fun x ρ => (mb ρ).bind fun y ρ => ask ((x.look ρ).bind fun x => (y.look ρ).bind fun y => (cmpop op x y).map fun b => .dt (.bool b)) ρ) :=
  pe_imp (pe_cmpR (op_cmp hu op) ha hb hm) fun σ H Q h => two h fun N d e q x y H h1 h2 h3 h4 => by
    obtain ⟨k, hk, rfl⟩ := map_some h3
    exact ⟨N, d, e, k, h1, h2, hk, h4 _ _ (res_dt (.bl _))⟩
theorem st_cmp (hu : X.A.units + 64 < cLine) {op : CmpOp} (ha : PE X a (T tt X.K ma)) (hb : PE X b (T tt X.K mb)) (hm : behindInMarks op b = false) :
    PT X (.Compare a [op] [b] p) (TB tt X.K fun ρ => (ma ρ).bind fun x ρ => (mb ρ).bind fun y ρ => ask ((x.look ρ).bind fun x => (y.look ρ).bind fun y => cmpop op x y) ρ) :=
  pt_imp (pt_cmpR (op_cmp hu op) ha hb hm) fun σ H Q h => two_test h fun N d e q x y H Q' h1 h2 h3 h4 => ⟨N, d, e, q, h1, h2, h3, h4⟩
theorem chain_ok {o1 o2 : CmpOp} {σ : L2.St} {H : Hp} {tt : TTs} {G : Gh tt} {ρ : Fr} {hs : List Ent} {Qb : Bool → Hp → Prop} {Q : VK} {F : Out Bool → Prop} (hF : ∀ q ρ, F (.ok q ρ) → ∀ H, Sim X.K G ρ hs σ H → Q (.bl q) H) (hno : EndsX F (FinX X.K G))
    (S : Sim X.K G ρ hs σ H) (h : F ((ma ρ).bind fun x ρ => (mb ρ).bind fun y ρ => match (x.look ρ).bind fun x => (y.look ρ).bind fun y => cmpop o1 x y with
      | some true => (mc ρ).bind fun z ρ => ask ((y.look ρ).bind fun y => (z.look ρ).bind fun z => cmpop o2 y z) ρ
      | some false => .ok false ρ
      | none => .no)) : tChain (rCmp X.K o1) (rCmp X.K o2) (T tt X.K ma) (T tt X.K mb) (T tt X.K mc) σ H Q := by
  refine T.mono (T.ask S (bind_split hno h)) fun x H1 ⟨rx, ρ1, S1, a1, h1⟩ => ?_
  refine T.mono (T.ask S1 (bind_split hno h1)) fun y H2 ⟨ry, ρ2, S2, a2, h2⟩ => ?_
  have S2' := S2
  rw [← List.append_assoc] at S2'
  cases e : (rx.look ρ2).bind fun x => (ry.look ρ2).bind fun y => cmpop o1 x y with
  | none => rw [e] at h2; exact (hno.no h2).elim
  | some k =>
    rw [e] at h2
    obtain ⟨d, hd, e⟩ := Option.bind_eq_some_iff.mp e
    obtain ⟨d', hd', e⟩ := Option.bind_eq_some_iff.mp e
    refine ⟨_, d, d', k, S2'.look (r := rx) (fun p hp => by simp [hp]) a1 hd, S2'.look (r := ry) (fun p hp => by simp [hp]) a2 hd', e, k, rfl, ?_⟩
    cases k with
    | false =>
      rw [if_neg Bool.false_ne_true]
      exact hF _ _ h2 H2 S2'.drops
    | true =>
      rw [if_pos rfl]
      refine T.mono (T.ask S2 (bind_split hno h2)) fun z H3 ⟨rz, ρ3, S3, a3, h3⟩ => ?_
      cases e3 : (ry.look ρ3).bind fun y => (rz.look ρ3).bind fun z => cmpop o2 y z with
      | none => rw [e3] at h3; exact (hno.no h3).elim
      | some k2 =>
        rw [e3] at h3
        obtain ⟨d2, hd2, e3⟩ := Option.bind_eq_some_iff.mp e3
        obtain ⟨d3, hd3, e3⟩ := Option.bind_eq_some_iff.mp e3
        have S3' := S3
        rw [← List.append_assoc, ← List.append_assoc] at S3'
        exact ⟨_, d2, d3, k2, S3'.look (r := ry) (fun p hp => by simp [hp]) a2 hd2, S3'.look (r := rz) (fun p hp => by simp [hp]) a3 hd3, e3, hF _ _ h3 H3 S3'.drops⟩
theorem st_cmp2 (hu : X.A.units + 64 < cLine) {o1 o2 : CmpOp} (ha : PE X a (T tt X.K ma)) (hb : PE X b (T tt X.K mb)) (hc : PE X c (T tt X.K mc)) (hm : lastMarks [o1, o2] [b, c] = false) :
    PT X (.Compare a [o1, o2] [b, c] p) (TB tt X.K fun ρ => (ma ρ).bind fun x ρ => (mb ρ).bind fun y ρ => match (x.look ρ).bind fun x => (y.look ρ).bind fun y => cmpop o1 x y with
      | some true => (mc ρ).bind fun z ρ => ask ((y.look ρ).bind fun y => (z.look ρ).bind fun z => cmpop o2 y z) ρ
      | some false => .ok false ρ
      | none => .no) :=
  pt_imp (pt_chain (op_cmp hu o1) (op_cmp hu o2) ha hb hc hm) fun σ H Q ⟨G, ρ, hs, S, h⟩ =>
    chain_ok (Qb := Q) (F := FinB X.K G hs σ Q) (fun q ρ hq H S => ⟨q, rfl, hq H S⟩) FinB.no S h
theorem se_cmp2 (hu : X.A.units + 64 < cLine) {o1 o2 : CmpOp} (ha : PE X a (T tt X.K ma)) (hb : PE X b (T tt X.K mb)) (hc : PE X c (T tt X.K mc)) (hm : lastMarks [o1, o2] [b, c] = false) :
    PE X (.Compare a [o1, o2] [b, c] p) (T tt X.K fun ρ => boolR ((ma ρ).bind fun x ρ => (mb ρ).bind fun y ρ => match (x.look ρ).bind fun x => (y.look ρ).bind fun y => cmpop o1 x y with
      | some true => (mc ρ).bind fun z ρ => ask ((y.look ρ).bind fun y => (z.look ρ).bind fun z => cmpop o2 y z) ρ
      | some false => .ok false ρ
      | none => .no)) :=
  pe_imp (pe_chain (op_cmp hu o1) (op_cmp hu o2) ha hb hc hm) fun σ H Q ⟨G, ρ, hs, S, h⟩ =>
    chain_ok (Qb := fun b H => Q (.bl b) H) (F := fun o => FinR X.K G hs σ Q (boolR o)) (fun q ρ hq H S => hq _ H (S.push_dt (.bl _)) trivial) ⟨fun h => h, fun _ _ h => h⟩ S h
/-! ### tests of values -/
theorem tru_rel {N : Addr → Prop} {H : Hp} {d : D} {x : V} {k : Bool} (h : RelT X.K N H d x) (hk : truthD d = some k) : TruV X.K x H k := by
  cases d with
  | none => cases hk; obtain rfl := h.non; rfl
  | bool b => cases hk; obtain rfl := h.bool; rfl
  | int i => cases hk; obtain rfl := h.int; rfl
  | str z =>
    obtain ⟨h1, rfl⟩ := iteS hk; obtain rfl := h.str
    refine ⟨h1, ?_⟩
    cases z.length <;> rfl
  | tuple ds =>
    cases hk; obtain ⟨a, vs, rfl, h1, h2⟩ := h.tuple
    refine .inr (.inl ⟨vs, h1, ?_⟩)
    cases h2 <;> rfl
  | list ds =>
    cases hk; obtain ⟨a, vs, rfl, h1, h2⟩ := h.list
    refine .inl ⟨vs, h1.seq, ?_⟩
    cases h2 <;> rfl
  | dict _ => cases hk
theorem st_val (ha : PE X a (T tt X.K ma)) (hp : ∀ whole, isTrue a X.env whole = (do let v ← whole; standAt a.pos; holding [v] (truthy v))) : PT X a (TB tt X.K fun ρ => (ma ρ).bind fun x ρ => ask ((x.look ρ).bind truthD) ρ) :=
  pt_imp (pt_truth ha hp) fun σ H Q ⟨G, ρ, hs, S, h⟩ => by
    refine T.mono (T.ask S (bind_split FinB.no h)) fun x H1 ⟨rx, ρ1, S1, a1, h1⟩ => ?_
    obtain ⟨q, e, h3⟩ := FinB.asked h1
    obtain ⟨d, hd, e⟩ := Option.bind_eq_some_iff.mp e
    exact ⟨q, tru_rel (S1.look (fun p hp => List.mem_append_left _ hp) a1 hd) e, h3 H1 S1.drops⟩
variable {tm um : Fr → Out Bool}
theorem st_not (ha : PT X a (TB tt X.K tm)) : PT X (.UnaryOp .Not a p) (TB tt X.K fun ρ => (tm ρ).bind fun b ρ => .ok (!b) ρ) :=
  pt_imp (pt_not ha) fun σ H Q ⟨G, ρ, hs, S, h⟩ => TB.mono (TB.ask S (bind_split FinB.no h)) fun b H1 ⟨ρ1, S1, h1⟩ => h1 H1 S1
theorem se_ife (hc : PT X c (TB tt X.K tm)) (ha : PE X a (T tt X.K ma)) (hb : PE X b (T tt X.K mb)) : PE X (.IfExp c a b p) (T tt X.K fun ρ => (tm ρ).bind fun k ρ => if k then ma ρ else mb ρ) :=
  pe_imp (pe_ifExp hc ha hb) fun σ H Q ⟨G, ρ, hs, S, h⟩ => TB.mono (TB.ask S (bind_split FinR.no h)) fun k H1 ⟨ρ1, S1, h1⟩ => by
    cases k with
    | true => exact ⟨G, ρ1, hs, S1, h1⟩
    | false => exact ⟨G, ρ1, hs, S1, h1⟩
/-! ### and, or -/
def boOp (c : Bool) : BoolOp := if c then .And else .Or
theorem sw_one (k : Bool) (ha : PT X a (TB tt X.K tm)) : PW X (.BoolOp (boOp k) [a] p) (TB tt X.K tm) := by
  cases k with
  | true => exact pw_and1 ha
  | false => exact pw_or1 ha
theorem sw_cons (k : Bool) {rest : List Expr} (ha : PT X a (TB tt X.K tm)) (hb : PW X (.BoolOp (boOp k) (b :: rest) p) (TB tt X.K um)) :
    PW X (.BoolOp (boOp k) (a :: b :: rest) p) (TB tt X.K fun ρ => (tm ρ).bind fun z ρ => if z = k then um ρ else .ok z ρ) := by
  cases k with
  | true =>
    refine ⟨fun wh pins s σ H Q I ⟨G, ρ, hs, S, h⟩ => (pw_and ha hb).run wh pins s σ H Q I ?_⟩
    refine TB.mono (TB.ask S (bind_split FinB.no h)) fun z H1 ⟨ρ1, S1, h1⟩ => ?_
    cases z with
    | true => exact ⟨G, ρ1, hs, S1, h1⟩
    | false => exact h1 H1 S1
  | false =>
    refine ⟨fun wh pins s σ H Q I ⟨G, ρ, hs, S, h⟩ => (pw_or ha hb).run wh pins s σ H Q I ?_⟩
    refine TB.mono (TB.ask S (bind_split FinB.no h)) fun z H1 ⟨ρ1, S1, h1⟩ => ?_
    cases z with
    | true => exact h1 H1 S1
    | false => exact ⟨G, ρ1, hs, S1, h1⟩
theorem se_boOne (k : Bool) (ha : PE X a (T tt X.K ma)) : PE X (.BoolOp (boOp k) [a] p) (T tt X.K ma) := pe_one ha
theorem se_boCons (k : Bool) {rest : List Expr} (ha : PE X a (T tt X.K ma)) (hb : PE X (.BoolOp (boOp k) (b :: rest) p) (T tt X.K mb)) :
    PE X (.BoolOp (boOp k) (a :: b :: rest) p) (T tt X.K fun ρ => (ma ρ).bind fun x ρ => match (x.look ρ).bind truthD with | some z => if z = k then mb ρ else .ok x ρ | none => .no) := by
  have fin : ∀ {σ : L2.St} {H : Hp} {Q : VK} {G : Gh tt} {ρ : Fr} {hs : List Ent}, Sim X.K G ρ hs σ H → FinR X.K G hs σ Q ((ma ρ).bind fun x ρ => match (x.look ρ).bind truthD with | some z => if z = k then mb ρ else .ok x ρ | none => .no) →
      T tt X.K ma σ H fun x H1 => ∃ z, TruV X.K x H1 z ∧ (if z = k then T tt X.K mb σ H1 Q else Q x H1) := fun {σ H Q G ρ hs} S h => by
    refine T.mono (T.ask S (bind_split FinR.no h)) fun x H1 ⟨rx, ρ1, S1, a1, h1⟩ => ?_
    cases e : (rx.look ρ1).bind truthD with
    | none => rw [e] at h1; exact h1.elim
    | some z =>
      rw [e] at h1
      obtain ⟨d, hd, e⟩ := Option.bind_eq_some_iff.mp e
      refine ⟨z, tru_rel (S1.look (fun p hp => List.mem_append_left _ hp) a1 hd) e, ?_⟩
      by_cases hz : z = k
      · simp only [hz, if_true] at h1 ⊢
        exact ⟨G, ρ1, hs, S1.drops, h1⟩
      · simp only [hz, if_false] at h1 ⊢
        exact h1 x H1 S1 a1
  cases k with
  | true =>
    refine pe_imp (pe_andT ha hb) fun σ H Q ⟨G, ρ, hs, S, h⟩ => T.mono (fin S h) fun x H1 ⟨z, hz, q⟩ => ⟨z, hz, ?_⟩
    cases z with
    | true => simpa using q
    | false => simpa using q
  | false =>
    refine pe_imp (pe_orT ha hb) fun σ H Q ⟨G, ρ, hs, S, h⟩ => T.mono (fin S h) fun x H1 ⟨z, hz, q⟩ => ⟨z, hz, ?_⟩
    cases z with
    | true => simpa using q
    | false => simpa using q
end
end Py
end
section
set_option Elab.async false
set_option linter.all false
set_option autoImplicit false
set_option maxRecDepth 100000
/-! Rules, 5: displays, built-ins, subscripts, methods. -/
namespace Py
open PySem PySem.Spec PyProof.Rows L2

section
variable {K : W.Frag} {tt : TTs} {G : Gh tt} {ρ ρ' : Fr} {hs hs' hs1 es : List Ent} {σ : L2.St} {H H' : Hp} {Q : VK}
theorem NS.push_dt (d : D) (v : V) (a : Addr) : NS G ρ ((.val d, some v) :: hs) σ a → NS G ρ hs σ a := fun q => by
  have q' := NN.perm (zip_held ρ σ (.val d, some v) hs).symm a q
  exact (NN.cons_val (fun _ e => by cases e) a).mp q'
theorem NS.push_dt' (d : D) (v : V) (a : Addr) : NS G ρ hs σ a → NS G ρ ((.val d, some v) :: hs) σ a := fun q =>
  NN.perm (zip_held ρ σ (.val d, some v) hs) a ((NN.cons_val (fun _ e => by cases e) a).mpr q)
/-- each of a list's items held -/
theorem Sim.pushL (S : Sim K G ρ hs σ H) : ∀ {ds : List D} {vs : List V}, RelL K (NS G ρ hs σ) H ds vs → ∃ es, EntsD ds vs es ∧ Sim K G ρ (es ++ hs) σ H ∧ ∀ a, NS G ρ (es ++ hs) σ a → NS G ρ hs σ a
  | _, _, .nil => ⟨[], .nil, S, fun _ q => q⟩
  | _, _, .cons (d := d) (v := v) r t => by
    obtain ⟨es, E, S', n⟩ := S.pushL t
    exact ⟨_, .cons E, S'.push_dt (r.sub n), fun a q => n a (NS.push_dt d v a q)⟩
theorem ents_rel : ∀ {ds : List D} {xs : List V} {es l : List Ent}, EntsD ds xs es → (∀ p ∈ es, p ∈ l) → Sim K G ρ l σ H → RelL K (NS G ρ l σ) H ds xs
  | _, _, _, _, .nil, _, _ => .nil
  | _, _, _, _, .cons E, hm, S => by
    obtain ⟨v, e, r⟩ := S.sp.val _ (List.mem_append_right _ (hm _ List.mem_cons_self)) _ rfl
    cases e
    exact .cons r (ents_rel E (fun p hp => hm p (List.mem_cons_of_mem _ hp)) S)
theorem EntsD.len {ds : List D} {xs : List V} {es : List Ent} (E : EntsD ds xs es) : xs.length = ds.length := by
  induction E with
  | nil => rfl
  | cons _ ih => simp [ih]
theorem EntsD.app {ds ds' : List D} {xs xs' : List V} {es es' : List Ent} (E : EntsD ds xs es) (E' : EntsD ds' xs' es') : EntsD (ds ++ ds') (xs ++ xs') (es ++ es') := by
  induction E with
  | nil => exact E'
  | cons _ ih => exact .cons ih
theorem FinD.give {d : D} {x : V} (h : FinD K G hs σ Q (.ok d ρ)) (S : Sim K G ρ ((.val d, some x) :: hs) σ H) : Q x H := h x H S
end

section
variable {tt : TTs} {X : Cx} {a b c : Expr} {ma mb mc : Fr → Out R} {p : Pos}
theorem esc_imp {σ : L2.St} {H : Hp} {Q : VK} (h : TD tt X.K (fun ρ => escM (ma ρ)) σ H Q) : T tt X.K ma σ H Q := by
  obtain ⟨G, ρ, hs, S, h⟩ := h
  refine T.mono (T.ask S (bind_split FinD.no h)) fun x H1 ⟨rx, ρ1, S1, a1, h1⟩ => ?_
  cases e : rx.esc ρ1 with
  | ok d ρ2 => rw [e] at h1; exact h1 x H1 (S1.esc a1 e)
  | ex C d => exact (esc_nex e).elim
  | no => rw [e] at h1; exact h1.elim
theorem sd_esc (ha : PE X a (T tt X.K ma)) : PE X a (TD tt X.K fun ρ => escM (ma ρ)) := pe_imp ha fun _ _ _ h => esc_imp h
/-! ### items, arguments -/
theorem sl_nil : PA X [] (TL tt X.K fun ρ => .ok [] ρ) := pa_imp pa_nil fun σ H Q ⟨G, ρ, hs, S, h⟩ => h [] [] H .nil S
theorem sl_cons {es : List Expr} {md : Fr → Out D} {ml : Fr → Out (List D)} (ha : PE X a (TD tt X.K md)) (hr : PA X es (TL tt X.K ml)) (hs : starEach (a :: es) X.env = (false, eval a X.env) :: starEach es X.env) :
    PA X (a :: es) (TL tt X.K fun ρ => (md ρ).bind fun d ρ => (ml ρ).bind fun ds ρ => .ok (d :: ds) ρ) :=
  pa_imp (pa_cons ha hr hs) fun σ H Q ⟨G, ρ, hs, S, h⟩ => by
    refine TD.mono (TD.ask S (bind_split FinL.no h)) fun x H1 ⟨d, ρ1, S1, h1⟩ => ?_
    refine TL.mono (TL.ask S1 (bind_split FinL.no h1)) fun xs H2 ⟨ds, es, ρ2, E, S2, h2⟩ => ?_
    refine h2 (x :: xs) ((.val d, some x) :: es) H2 (.cons E) (S2.held (.refl _) ?_)
    exact List.perm_middle
theorem sl_star {es : List Expr} {md : Fr → Out D} {ml : Fr → Out (List D)} {q : Pos} (ha : PE X a (TD tt X.K md)) (hr : PA X es (TL tt X.K ml)) (hs : starEach (.Starred a q :: es) X.env = (true, eval a X.env) :: starEach es X.env) :
    PA X (.Starred a q :: es) (TL tt X.K fun ρ => (md ρ).bind fun d ρ => match itemsD d with | some es => (ml ρ).bind fun ds ρ => .ok (es ++ ds) ρ | none => .no) :=
  pa_imp (StX.pa_star ha hr hs) fun σ H Q ⟨G, ρ, hs, S, h⟩ => by
    refine TD.mono (TD.ask S (bind_split FinL.no h)) fun x H1 ⟨d, ρ1, S1, h1⟩ => ?_
    obtain ⟨v, ev, rd⟩ := S1.sp.val _ (List.mem_append_right _ List.mem_cons_self) _ rfl
    cases ev
    cases hi : itemsD d with
    | none => rw [hi] at h1; exact h1.elim
    | some ds0 =>
      obtain ⟨a, vs, rfl, h2, rl⟩ := items_rel (.dt rd) hi
      obtain ⟨es0, E0, S2, _⟩ := S1.pushL rl
      refine ⟨a, vs, rfl, h2.symm, ?_⟩
      rw [hi] at h1
      refine TL.mono (TL.ask S2 (bind_split FinL.no h1)) fun xs H2 ⟨ds, es, ρ2, E, S3, h3⟩ => ?_
      refine h3 (vs ++ xs) (es0 ++ es) H2 (E0.app E) (S3.held (h1 := es ++ (es0 ++ hs)) ?_ ?_)
      · exact (List.Sublist.refl _).append ((List.Sublist.refl _).append (List.sublist_cons_self _ _))
      · rw [← List.append_assoc]
        exact (List.perm_append_comm).append_right hs
theorem se_tup {es : List Expr} {ml : Fr → Out (List D)} {k : Nat} (h : PA X es (TL tt X.K ml)) : PE X (.Tuple es k p) (T tt X.K fun ρ => (ml ρ).bind fun ds ρ => if ds.length ≤ sizeLine then .ok (.dt (.tuple ds)) ρ else .no) :=
  pe_imp (pe_tup h) fun σ H Q ⟨G, ρ, hs, S, h⟩ => by
    refine TL.mono (TL.ask S (bind_split FinR.no h)) fun xs H1 ⟨ds, es, ρ1, E, S1, h1⟩ => ?_
    split at h1
    · rename_i hl
      refine ⟨by rw [E.len]; exact hl, fun q hq => ?_⟩
      obtain ⟨S2, a2⟩ := S1.res (r := .dt (.tuple ds)) (res_tup hq (ents_rel E (fun p hp => List.mem_append_left _ hp) S1))
      exact h1 _ _ S2 a2
    · exact h1.elim
theorem se_lst {es : List Expr} {ml : Fr → Out (List D)} (h : PA X es (TL tt X.K ml)) : PE X (.List es p) (T tt X.K fun ρ => (ml ρ).bind fun ds ρ => if ds.length ≤ sizeLine then .ok (.new ds) ρ else .no) :=
  pe_imp (pe_lst h) fun σ H Q ⟨G, ρ, hs, S, h⟩ => by
    refine TL.mono (TL.ask S (bind_split FinR.no h)) fun xs H1 ⟨ds, es, ρ1, E, S1, h1⟩ => ?_
    split at h1
    · rename_i hl
      refine ⟨by rw [E.len]; exact hl, fun q hq => ?_⟩
      obtain ⟨S2, a2⟩ := S1.res (r := .new ds) (res_new hq (ents_rel E (fun p hp => List.mem_append_left _ hp) S1))
      exact h1 _ _ S2 a2
    · exact h1.elim
theorem sr_nil : PA X [] (TR tt X.K fun ρ => .ok [] ρ) := pa_imp pa_nil fun σ H Q ⟨G, ρ, hs, S, h⟩ => h [] [] H .nil S
theorem sr_cons {es : List Expr} {ml : Fr → Out (List R)} (ha : PE X a (T tt X.K ma)) (hr : PA X es (TR tt X.K ml)) (hs : starEach (a :: es) X.env = (false, eval a X.env) :: starEach es X.env) :
    PA X (a :: es) (TR tt X.K fun ρ => (ma ρ).bind fun d ρ => (ml ρ).bind fun ds ρ => .ok (d :: ds) ρ) :=
  pa_imp (pa_cons ha hr hs) fun σ H Q ⟨G, ρ, hs, S, h⟩ => by
    refine T.mono (T.ask S (bind_split FinRs.no h)) fun x H1 ⟨d, ρ1, S1, a1, h1⟩ => ?_
    refine TR.mono (TR.ask S1 (bind_split FinRs.no h1)) fun xs H2 ⟨ds, es, ρ2, E, S2, h2⟩ => ?_
    refine h2 (x :: xs) (ents d x ++ es) H2 (.cons a1 E) (S2.held (.refl _) ?_)
    rw [← List.append_assoc]
    exact (List.perm_append_comm).append_right hs
/-! ### built-ins -/
theorem one_arg {m : D → Option R} {σ : L2.St} {H : Hp} {Q : VK} {r : List V → Hp → VK → Prop} (h : T tt X.K (fun ρ => (ma ρ).bind fun x ρ => ask ((x.look ρ).bind m) ρ) σ H Q)
    (hr : ∀ N d q x H, RelT X.K N H d x → m d = some q → (∀ z H', Res X.K N H q z H' → Q z H') → r [x] H Q) : tCB r (tCons (T tt X.K ma) tNil) σ H Q := by
  obtain ⟨G, ρ, hs, S, h⟩ := h
  refine T.mono (T.ask S (bind_split FinR.no h)) fun x H1 ⟨rx, ρ1, S1, a1, h1⟩ => ?_
  obtain ⟨q, e, h3⟩ := FinR.asked h1
  obtain ⟨d, hd, e⟩ := Option.bind_eq_some_iff.mp e
  refine hr _ d q x H1 (S1.look (r := rx) (fun p hp => List.mem_append_left _ hp) a1 hd) e fun z H' res => ?_
  obtain ⟨S3, a3⟩ := S1.res res
  exact h3 z H' S3 a3
theorem se_b1 (hc : X.calm = true) (hu : X.A.units + 64 < cLine) {f : B1} {px : Pos} (hg : Gl X f.name) (hm : X.mg f.name = none) (ha : PE X a (T tt X.K ma)) (hs : starEach [a] X.env = (false, eval a X.env) :: starEach [] X.env) :
    PE X (.Call (.Name f.name px) [a] [] p) (T tt X.K fun ρ => (ma ρ).bind fun x ρ => ask ((x.look ρ).bind (b1M f)) ρ) := by
  have g : ∀ σ H Q, T tt X.K (fun ρ => (ma ρ).bind fun x ρ => ask ((x.look ρ).bind (b1M f)) ρ) σ H Q → tCB (rB1 X.K f) (tCons (T tt X.K ma) tNil) σ H Q := fun σ H Q h =>
    one_arg h fun N d q x H h1 h2 h3 => ⟨x, d, q, N, rfl, h1, h2, h3⟩
  have cr := cr_b1 hc hu f
  cases f with
  | len => exact pe_imp (pe_callB cr hg hm (by decide +kernel) (pa_cons ha pa_nil hs) (by decide) (by decide) hs rfl) g
  | all => exact pe_imp (pe_callB cr hg hm (by decide +kernel) (pa_cons ha pa_nil hs) (by decide) (by decide) hs rfl) g
  | any => exact pe_imp (pe_callB cr hg hm (by decide +kernel) (pa_cons ha pa_nil hs) (by decide) (by decide) hs rfl) g
  | sorted => exact pe_imp (pe_callB cr hg hm (by decide +kernel) (pa_cons ha pa_nil hs) (by decide) (by decide) hs rfl) g
  | tuple => exact pe_imp (pe_callTy cr hg hm (by decide +kernel) (pa_cons ha pa_nil hs) (by decide) (by decide) hs rfl) g
  | list => exact pe_imp (pe_callTy cr hg hm (by decide +kernel) (pa_cons ha pa_nil hs) (by decide) (by decide) hs rfl) g
  | max => exact pe_imp (pe_callB cr hg hm (by decide +kernel) (pa_cons ha pa_nil hs) (by decide) (by decide) hs rfl) g
  | min => exact pe_imp (pe_callB cr hg hm (by decide +kernel) (pa_cons ha pa_nil hs) (by decide) (by decide) hs rfl) g
  | sum => exact pe_imp (pe_callB cr hg hm (by decide +kernel) (pa_cons ha pa_nil hs) (by decide) (by decide) hs rfl) g
  | abs => exact pe_imp (pe_callB cr hg hm (by decide +kernel) (pa_cons ha pa_nil hs) (by decide) (by decide) hs rfl) g
  | int => exact pe_imp (pe_callTy cr hg hm (by decide +kernel) (pa_cons ha pa_nil hs) (by decide) (by decide) hs rfl) g
theorem plain_args {p : Pos} (hs : starEach [b] X.env = (false, eval b X.env) :: starEach [] X.env) : (backTo p (starEach [b] X.env)).any (·.1) = false := by rw [hs]; rfl
theorem se_b2 (hc : X.calm = true) {f : B2} {px : Pos} (hg : Gl X f.name) (hm : X.mg f.name = none) (ha : PE X a (T tt X.K ma)) (hb : PE X b (T tt X.K mb)) (hs : starEach [a, b] X.env = (false, eval a X.env) :: starEach [b] X.env) (hs2 : starEach [b] X.env = (false, eval b X.env) :: starEach [] X.env) :
    PE X (.Call (.Name f.name px) [a, b] [] p) (T tt X.K fun ρ => (ma ρ).bind fun x ρ => (mb ρ).bind fun y ρ => ask ((x.look ρ).bind fun x => (y.look ρ).bind fun y => b2M f x y) ρ) := by
  have g : ∀ σ H Q, T tt X.K (fun ρ => (ma ρ).bind fun x ρ => (mb ρ).bind fun y ρ => ask ((x.look ρ).bind fun x => (y.look ρ).bind fun y => b2M f x y) ρ) σ H Q → tCB (rB2 X.K f) (tCons (T tt X.K ma) (tCons (T tt X.K mb) tNil)) σ H Q := fun σ H Q h =>
    two h (r := fun x y H Q => rB2 X.K f [x, y] H Q) fun N d e q x y H h1 h2 h3 h4 => ⟨x, y, d, e, q, N, rfl, h1, h2, h3, h4⟩
  have cr := cr_b2 hc f
  cases f with
  | max => exact pe_imp (pe_callB cr hg hm (by decide +kernel) (pa_cons ha (pa_cons hb pa_nil hs2) hs) (by decide) (by decide) hs (plain_args hs2)) g
  | min => exact pe_imp (pe_callB cr hg hm (by decide +kernel) (pa_cons ha (pa_cons hb pa_nil hs2) hs) (by decide) (by decide) hs (plain_args hs2)) g
theorem boot_ty (t : Ty) : bootBuiltins t.name = some (.type t.tn) := by cases t <;> decide +kernel
theorem ty_dbg (t : Ty) : t.name ≠ "__name__" ∧ (t.name == ("__debug__" : Str)) = false := by cases t <;> decide +kernel
theorem se_isi {px pt : Pos} {t : Ty} (hg : Gl X "isinstance") (hm : X.mg "isinstance" = none) (hgt : Gl X t.name) (hmt : X.mg t.name = none) (ha : PE X a (T tt X.K ma)) (hs : starEach [a, .Name t.name pt] X.env = (false, eval a X.env) :: starEach [.Name t.name pt] X.env) :
    PE X (.Call (.Name "isinstance" px) [a, .Name t.name pt] [] p) (T tt X.K fun ρ => (ma ρ).bind fun x ρ => ask ((x.look ρ).bind (isiM t)) ρ) := by
  have ht : PE X (.Name t.name pt) (tC (.ty t.tn)) := pe_bltn hgt hmt (boot_ty t) rfl (ty_dbg t).1 (ty_dbg t).2
  refine pe_imp (pe_callB cr_isiD hg hm (by decide +kernel) (pa_cons ha (pa_cons ht pa_nil rfl) hs) (by decide) (by decide) hs rfl) fun σ H Q ⟨G, ρ, hs, S, h⟩ => ?_
  refine T.mono (T.ask S (bind_split FinR.no h)) fun x H1 ⟨rx, ρ1, S1, a1, h1⟩ => ?_
  obtain ⟨q, e, h3⟩ := FinR.asked h1
  obtain ⟨d, hd, e⟩ := Option.bind_eq_some_iff.mp e
  obtain ⟨hp, rfl⟩ := if_some e
  have hp := (Bool.and_eq_true _ _).mp hp
  exact ⟨x, d, t, rfl, (S1.look (r := rx) (fun p hp => List.mem_append_left _ hp) a1 hd).dp hp.2, hp.1, h3 _ H1 (S1.drops.push_dt (.bl _)) trivial⟩
/-! ### subscripts, slices -/
def rIdx (K : W.Frag) : R2 := fun x y H Q => rIxL K x y H Q ∨ rIxT K x y H Q
theorem at_rel {N : Addr → Prop} {H : Hp} {ds : List D} {vs : List V} {i : Int} {d : D} (r : RelL X.K N H ds vs) (h : atD ds i = some d) : ∃ v, atI vs i = some v ∧ RelD X.K N H d v := by
  unfold atD atI at *
  rw [← r.length]
  cases e : ixN ds.length i with
  | none => rw [e] at h; cases h
  | some j => rw [e] at h; exact r.get h
theorem se_idx (ha : PE X a (T tt X.K ma)) (hb : PE X b (T tt X.K mb)) (hp : PlainIx b) :
    PE X (.Subscript a b p) (T tt X.K fun ρ => (ma ρ).bind fun x ρ => (mb ρ).bind fun y ρ => ask ((x.look ρ).bind fun x => (y.look ρ).bind fun y => idxM x y) ρ) :=
  pe_imp (pe_ix (IxR.or ix_list ix_tup) ha hb hp) fun σ H Q h => two h fun N d e q x y H h1 h2 h3 h4 => by
    unfold idxM at h3
    split at h3
    · rename_i ds i
      obtain ⟨d, hd, rfl⟩ := map_some h3
      obtain ⟨a, vs, rfl, hq, rl⟩ := h1.tuple
      obtain rfl := h2.int
      obtain ⟨v, hv, rv⟩ := at_rel rl hd
      exact .inr ⟨a, vs, i, v, rfl, rfl, hq, hv, h4 _ _ (res_dt rv)⟩
    · rename_i ds i
      obtain ⟨d, hd, rfl⟩ := map_some h3
      obtain ⟨a, vs, rfl, hq, rl⟩ := h1.list
      obtain rfl := h2.int
      obtain ⟨v, hv, rv⟩ := at_rel rl hd
      exact .inl ⟨a, vs, i, v, rfl, rfl, hq.seq, hv, h4 _ _ (res_dt rv)⟩
    · cases h3
theorem cut_rel {N : Addr → Prop} {H : Hp} {ds : List D} {vs : List V} (lo hi : Option Int) (r : RelL X.K N H ds vs) : RelL X.K N H (cutD ds lo hi) (cutV vs lo hi) := by
  unfold cutD cutV
  rw [r.length]
  exact (r.drop _).take _
theorem cut_all {α : Type} {l : List α} {a b : Nat} (h : a = 0 ∧ b = l.length) : (l.drop a).take (b - a) = l := by
  obtain ⟨rfl, rfl⟩ := h
  simp
def rSlc (K : W.Frag) : V → Option Int → Option Int → Hp → VK → Prop := fun x lo hi H Q => rSlL K x lo hi H Q ∨ rSlA K x lo hi H Q
theorem slc_ok {N : Addr → Prop} {H : Hp} {Q : VK} {d : D} {x : V} {lo hi : Option Int} {q : R} (h1 : RelT X.K N H d x) (h : slcM d lo hi = some q) (h4 : ∀ z H', Res X.K N H q z H' → Q z H') : rSlc X.K x lo hi H Q := by
  unfold slcM at h
  split at h
  · rename_i ds
    cases h
    obtain ⟨a, vs, rfl, hq, rl⟩ := h1.tuple
    refine .inr ⟨a, vs, rfl, hq, fun e => ?_, fun _ p hp => h4 _ _ (res_tup hp (cut_rel lo hi rl))⟩
    have e2 : cutD ds lo hi = ds := cut_all (by rw [rl.length]; exact e)
    rw [e2] at h4
    exact h4 _ _ (res_dt (.tup hq rl))
  · rename_i ds
    cases h
    obtain ⟨a, vs, rfl, hq, rl⟩ := h1.list
    exact .inl ⟨a, vs, rfl, hq.seq, fun p hp => h4 _ _ (res_new hp (cut_rel lo hi rl))⟩
  · cases h
theorem se_slo {ps : Pos} (ha : PE X a (T tt X.K ma)) (hb : PE X b (T tt X.K mb)) :
    PE X (.Subscript a (.Slice (some b) none none ps) p) (T tt X.K fun ρ => (ma ρ).bind fun x ρ => (mb ρ).bind fun y ρ => ask ((x.look ρ).bind fun x => (y.look ρ).bind fun y => match y with | .int i => slcM x (some i) none | _ => none) ρ) :=
  pe_imp (pe_slice (SlR.or sl_list sl_tupA) ha (po_some hb) po_none) fun σ H Q h =>
    two h (r := fun x y H Q => ∃ i, y = .int i ∧ rSlc X.K x (some i) none H Q) fun N d e q x y H h1 h2 h3 h4 => by
      split at h3
      · rename_i i; obtain rfl := h2.int; exact ⟨i, rfl, slc_ok h1 h3 h4⟩
      · cases h3
theorem se_shi {ps : Pos} (ha : PE X a (T tt X.K ma)) (hb : PE X b (T tt X.K mb)) :
    PE X (.Subscript a (.Slice none (some b) none ps) p) (T tt X.K fun ρ => (ma ρ).bind fun x ρ => (mb ρ).bind fun y ρ => ask ((x.look ρ).bind fun x => (y.look ρ).bind fun y => match y with | .int i => slcM x none (some i) | _ => none) ρ) :=
  pe_imp (pe_slice (SlR.or sl_list sl_tupA) ha po_none (po_some hb)) fun σ H Q h =>
    two h (r := fun x y H Q => ∃ i, y = .int i ∧ rSlc X.K x none (some i) H Q) fun N d e q x y H h1 h2 h3 h4 => by
      split at h3
      · rename_i i; obtain rfl := h2.int; exact ⟨i, rfl, slc_ok h1 h3 h4⟩
      · cases h3
end
end Py
end
section
set_option Elab.async false
set_option linter.all false
set_option autoImplicit false
set_option maxRecDepth 100000
/-! Rules, 6: methods of own lists; calls of defs. -/
namespace Py
open PySem PySem.Spec PyProof.Rows L2

section
variable {tt : TTs} {X : Cx} {a b c : Expr} {ma mb mc : Fr → Out R} {p : Pos}
theorem isOwn_at {ρ : Fr} {i : Nat} (h : isOwn ρ i = true) : ∃ ds, ρ[i]? = some (.own ds) := by
  unfold isOwn at h
  split at h
  · exact ⟨_, by assumption⟩
  · cases h
/-- a method of an own list: what it does to it -/
theorem se_own {md : Fr → Out D} {act : Nat → D → Fr → Out R} {i : Nat} {x nm : Str} {px pa : Pos} {id : String} {r : V → List V → Hp → VK → Prop} (hN : X.N[i]? = some x) (hv : Vis X.env.scope x) (hd : (x == ("__debug__" : Str)) = false) (hcd : (x == ("__classdict__" : Str)) = false)
    (ha : PE X a (TD tt X.K md)) (hs : starEach [a] X.env = (false, eval a X.env) :: starEach [] X.env) (hl : (pa.endLine == p.line) = true)
    (slot : Slot "list" nm id) (hty : typeOf (.builtin id) = pure (.type "method_descriptor")) (hm : MtR X id r) (hbase : attributeBase (.Name x px) nm X.env (eval (.Name x px) X.env) = eval (.Name x px) X.env)
    (hr : ∀ (G : Gh tt) ρ hs σ H Q q y d, Sim X.K G ρ ((.val d, some y) :: hs) σ H → σ[i]? = some (some q) → FinR X.K G hs σ Q (act i d ρ) → r q [y] H Q) :
    PE X (.Call (.Attribute (.Name x px) nm pa) [a] [] p) (T tt X.K fun ρ => if isOwn ρ i then (md ρ).bind fun d ρ => act i d ρ else .no) := by
  refine pe_imp (pe_bm PySem.F.plainAttrs_list slot hty hm (pe_var hN hv hd hcd) (pa_cons ha pa_nil hs) hbase (by rw [hs]; rfl) hl hs rfl) fun σ H Q ⟨G, ρ, hs, S, h⟩ => ?_
  dsimp only at h
  split at h
  · rename_i ho
    obtain ⟨ds, e⟩ := isOwn_at ho
    obtain ⟨q, vs, e1, e2, _⟩ := S.ownAt e
    refine ⟨_, e1, .inl ⟨rfl, vs, .inl (.inl e2)⟩, ?_⟩
    refine TD.mono (TD.ask S (bind_split FinR.no h)) fun y H1 ⟨d, ρ1, S1, h1⟩ => ?_
    exact hr G ρ1 hs σ H1 Q _ y d S1 e1 h1
  · exact h.elim
theorem held_rel {K : W.Frag} {tt : TTs} {G : Gh tt} {ρ : Fr} {hs : List Ent} {σ : L2.St} {H : Hp} {d : D} {y : V} (S : Sim K G ρ ((.val d, some y) :: hs) σ H) : RelD K (NS G ρ ((.val d, some y) :: hs) σ) H d y := by
  obtain ⟨v, e, r⟩ := S.sp.val _ (List.mem_append_right _ List.mem_cons_self) _ rfl
  cases e; exact r
theorem se_app {md : Fr → Out D} {i : Nat} {x : Str} {px pa : Pos} (hN : X.N[i]? = some x) (hv : Vis X.env.scope x) (hd : (x == ("__debug__" : Str)) = false) (hcd : (x == ("__classdict__" : Str)) = false)
    (ha : PE X a (TD tt X.K md)) (hs : starEach [a] X.env = (false, eval a X.env) :: starEach [] X.env) (hl : (pa.endLine == p.line) = true) :
    PE X (.Call (.Attribute (.Name x px) "append" pa) [a] [] p) (T tt X.K fun ρ => if isOwn ρ i then (md ρ).bind fun d ρ => appM i d ρ else .no) :=
  se_own (act := appM) hN hv hd hcd ha hs hl PySem.F.slot_list_append PySem.F.type_list_append mt_append rfl fun G ρ hs σ H Q q y d S e h => by
    unfold appM at h
    split at h
    · rename_i ds e2
      split at h
      · rename_i hz
        obtain ⟨a, vs, e3, e4, rl⟩ := S.ownAt e2
        rw [e] at e3; cases e3
        refine ⟨a, vs, y, rfl, rfl, e4, by rw [← rl.length]; exact hz, ?_⟩
        exact h _ _ ((S.write e2 e (rl.app (.cons (held_rel S) .nil))).drop.push_dt .non) trivial
      · exact h.elim
    · exact h.elim
def rExtR (K : W.Frag) : V → List V → Hp → VK → Prop := fun x ys H Q => ∃ l b xs zs, x = .ref l ∧ ys = [.ref b] ∧ H l = some (.lst xs) ∧ LsR K H b zs ∧ xs.length + zs.length ≤ sizeLine ∧ Q .non (upd H l (.lst (xs ++ zs)))
theorem mt_extR : MtM X "list.extend" (rExtR X.K) := by
  intro pins s σ H x ys v us Q I rx rv ⟨l, b, xs, zs, ex, ey, hl, hb, hz, q⟩
  subst ex; subst ey
  cases rx
  obtain ⟨u, rfl, ru⟩ := rv.one
  cases ru
  obtain ⟨z, its, n, r, _, e⟩ := I.lstM hl
  obtain ⟨z2, its2, n2, r2, e2⟩ := hb.at I
  have l1 := r.length
  have l2 := r2.length
  have hs : its.toArray.size + its2.toArray.size ≤ sizeLine := by simp only [List.size_toArray]; omega
  have hno : ¬ (!its.toArray.isEmpty && Builtin.List.listTooLong (its.toArray.size + its2.toArray.size)) = true := by rw [notLongL hs, Bool.and_false]; simp
  have hlaw := AutoSeq1.list_extend_list_list_0 l its.toArray n b its2.toArray n2 hno (by simp only [List.size_toArray]; omega) (by omega)
  refine call_meets F.slot_list_extend ⟨_, e, rfl⟩ F.entry_list_extend (F.args_list_extend_2 _ _) hlaw ⟨e, e2, ?_⟩
  exact ⟨.non, _, I.lset (its' := its ++ its2) hl e (by simp) (r.append r2) (by rw [List.length_append]; omega), rfl, q⟩
theorem se_ext {md : Fr → Out D} {i : Nat} {x : Str} {px pa : Pos} (hN : X.N[i]? = some x) (hv : Vis X.env.scope x) (hd : (x == ("__debug__" : Str)) = false) (hcd : (x == ("__classdict__" : Str)) = false)
    (ha : PE X a (TD tt X.K md)) (hs : starEach [a] X.env = (false, eval a X.env) :: starEach [] X.env) (hl : (pa.endLine == p.line) = true) :
    PE X (.Call (.Attribute (.Name x px) "extend" pa) [a] [] p) (T tt X.K fun ρ => if isOwn ρ i then (md ρ).bind fun d ρ => extM i d ρ else .no) :=
  se_own (act := extM) hN hv hd hcd ha hs hl PySem.F.slot_list_extend PySem.F.type_list_extend mt_extR rfl fun G ρ hs σ H Q q y d S e h => by
    unfold extM at h
    split at h
    · rename_i ds es e2
      split at h
      · rename_i hz
        obtain ⟨a, vs, e3, e4, rl⟩ := S.ownAt e2
        rw [e] at e3; cases e3
        obtain ⟨b, ws, rfl, hb, rb⟩ := (RelT.dt (held_rel S)).list
        refine ⟨a, b, vs, ws, rfl, rfl, e4, hb, by rw [← rl.length, ← rb.length]; exact hz, ?_⟩
        exact h _ _ ((S.write e2 e (rl.app rb)).drop.push_dt .non) trivial
      · exact h.elim
    · exact h.elim
theorem se_pop {md : Fr → Out D} {i : Nat} {x : Str} {px pa : Pos} (hN : X.N[i]? = some x) (hv : Vis X.env.scope x) (hd : (x == ("__debug__" : Str)) = false) (hcd : (x == ("__classdict__" : Str)) = false)
    (ha : PE X a (TD tt X.K md)) (hs : starEach [a] X.env = (false, eval a X.env) :: starEach [] X.env) (hl : (pa.endLine == p.line) = true) :
    PE X (.Call (.Attribute (.Name x px) "pop" pa) [a] [] p) (T tt X.K fun ρ => if isOwn ρ i then (md ρ).bind fun d ρ => popM i d ρ else .no) :=
  se_own (act := popM) hN hv hd hcd ha hs hl PySem.F.slot_list_pop PySem.F.type_list_pop mt_popAt rfl fun G ρ hs σ H Q q y d S e h => by
    unfold popM at h
    split at h
    · rename_i ds k e2
      split at h
      · rename_i hk
        split at h
        · rename_i j hj
          split at h
          · rename_i w hw
            obtain ⟨a, vs, e3, e4, rl⟩ := S.ownAt e2
            rw [e] at e3; cases e3
            obtain rfl := (RelT.dt (held_rel S)).int
            obtain ⟨z, hz, rz⟩ := rl.get hw
            refine ⟨a, vs, k, j, z, rfl, rfl, e4, hk.1, hk.2, by rw [← rl.length]; exact hj, hz, ?_⟩
            have S2 := S.write e2 e (rl.erase j)
            refine h _ _ ?_ trivial
            have S3 := S.push_dt rz
            have S4 := S3.write e2 e ((rl.erase j).sub fun a q => NS.push_dt _ _ a q)
            exact S4.held ((List.sublist_cons_self _ _).cons_cons _) (.refl _)
          · exact h.elim
        · exact h.elim
      · exact h.elim
    · exact h.elim
end
end Py
end
section
set_option Elab.async false
set_option linter.all false
set_option maxRecDepth 100000
set_option maxHeartbeats 2000000
/-! Promises of defs that are called where no repr is under way. -/
namespace Py
open PySem PySem.Spec PyProof.Rows L2 LamX

structure FnG (P : Program) (w : World) (K : W.Frag) (mg : Str → Option Value) (base : Heap) (CXx : CXT) (k : Nat) (f : Addr) (fd : FuncData) (ps : List Str) (sp : Sp) : Prop where
  len : ∀ vs H Q E, sp vs H Q E → vs.length = ps.length
  run : ∀ (A : Around) (outer : List Env) (s : Shared) (H : Hp) (args : Args) (us : List Value) (vs : List V) (Q : VK) (E : XK), Room k A → A.guards = some [] →
    Env0 P w K mg base A outer s H → BindsTo s fd args (ps.zip us) → Vals vs us → sp vs H Q E → codeAny (model P w) A (.call (.ref f) args) (CR CXx outer P w H s Q E) s
section
variable {P : Program} {w : World} {K : W.Frag} {mg : Str → Option Value} {base : Heap} {CXx : CXT} {j k : Nat} {f : Addr} {fd : FuncData} {ps : List Str} {sp sp' : Sp}
theorem fg_mono (F : FnG P w K mg base CXx j f fd ps sp) (h : j ≤ k) : FnG P w K mg base CXx k f fd ps sp :=
  ⟨F.len, fun A outer s H args us vs Q E hr => F.run A outer s H args us vs Q E (Room.mono hr h)⟩
theorem fg_imp (F : FnG P w K mg base CXx k f fd ps sp) (h : ∀ vs H Q E, sp' vs H Q E → sp vs H Q E) : FnG P w K mg base CXx k f fd ps sp' :=
  ⟨fun vs H Q E q => F.len vs H Q E (h _ _ _ _ q), fun A outer s H args us vs Q E hr hg he hb hv q => F.run A outer s H args us vs Q E hr hg he hb hv (h _ _ _ _ q)⟩
theorem fg_of {name qual : Str} {params : Arguments} {body : List Stmt} {scope : Scope} {dV kV doc pm cdv ct oc : Value} {an od : Option Addr} {osl : Array (Option Value)} {N : List Str}
    (lk : K.lookup f = some ⟨oc, od, .func (W.fnOf name qual params body scope dV kV doc pm an cdv ct), osl⟩) (hcd : W.codeIn K cdv qual = true) (S : FnScope N ps scope) (len : ∀ vs H Q E, sp vs H Q E → vs.length = ps.length)
    (hbody : ∀ (A : Around) (outer : List Env) (s : Shared) (H : Hp) (vs : List V) (Q : VK) (E : XK), A.guards = some [] → Room k (A.deeper (envOfC qual scope s.heap.objs.size f cdv)) → sp vs H Q E →
      ∃ t, PSs (cxOf CXx P w K mg base N qual scope f cdv A outer s H E) body t ∧ t { nx := fun _ H' => Q .non H', rt := Q } (L2.start N vs) H) :
    FnG P w K mg base CXx (k + 1) f (W.fnOf name qual params body scope dV kV doc pm an cdv ct) ps sp :=
  ⟨len, fun A outer s H args us vs Q E hr hg he hb hv h => run_ofS lk hcd S hr he hb hv (len _ _ _ _ h) fun hr2 => hbody A outer s H vs Q E hg hr2 h⟩
end
section
variable {X : Cx} {CXx : CXT} {k : Nat} {f : Addr} {fd : FuncData} {ps : List Str} {sp : Sp} {E : L2.St → XK} {x : Str} {p pos : Pos} {e : Expr} {es : List Expr} {t : TA}
theorem run_fg {pins : List (Addr × Obj)} {σ : L2.St} {H : Hp} {s : Shared} {Q : VK} {us : List Value} {vs : List V} (F : FnG X.prog X.w X.K X.mg X.base CXx k f fd ps sp) (hr : Room k X.A) (hgd : X.A.guards = some []) (hb : Binds X.K fd ps []) (hx : PassesAt CXx X σ (E σ))
    (I : Inv X pins σ H s) (r : Vals vs us) (h : sp vs H Q (E σ)) : wpAny (model X.prog X.w) X.A (call (.ref f) us) (EP X pins σ Q) X.xe s := by
  have hl : us.length = ps.length := by rw [← r.length, F.len _ _ _ _ h]
  have b := hb s us I.kIn ((List.append_nil us).symm ▸ hl)
  rw [List.append_nil] at b
  have q := F.run X.A X.stack s H ⟨us, []⟩ us vs Q (E σ) hr hgd I.env0 b r h
  refine wpAny_call (codeAny_mono q fun res s2 hq => ?_)
  match res, hq with
  | .error er, hq => exact hx pins H s er s2 I hq
  | .ok (.ret _), hq => exact I.after hq
  | .ok .next, hq => exact hq.elim
  | .ok .brk, hq => exact hq.elim
  | .ok .cont, hq => exact hq.elim
theorem pe_callG (F : FnG X.prog X.w X.K X.mg X.base CXx k f fd ps sp) (hr : Room k X.A) (hgd : X.A.guards = some []) (hg : Gl X x) (hm : X.mg x = some (.ref f)) (hk : W.keepIn X.K (.ref f) = true) (hb : Binds X.K fd ps []) (hx : ∀ σ, PassesAt CXx X σ (E σ))
    (ha : PA X (e :: es) t) (hdb : (x == ("__debug__" : Str)) = false) (he : starEach (e :: es) X.env = (false, eval e X.env) :: starEach es X.env) (hpl : (backTo pos (starEach es X.env)).any (·.1) = false) :
    PE X (.Call (.Name x p) (e :: es) [] pos) (tCallS sp E t) := by
  refine ⟨fun pins s σ H Q I h => wpAny_Call_Name_kw (ld_glob I hg hm (W.callWith_K (h₀ := X.base) I.ok.mod.kin hk ?_ he hpl) hdb)⟩
  exact thn (ha.run pos pins s σ H _ I h) fun us s2 ⟨vs, H2, J, r, q⟩ => ⟨J.kIn, run_fg F hr hgd hb (hx σ) J r q⟩
/-- what a slot holds is called: a def's promise by its address -/
def tCallV (i : Nat) (sp : Addr → Option Sp) (E : L2.St → XK) (t : TA) : TE := fun σ H Q => ∃ f s, σ[i]? = some (some (.ref f)) ∧ sp f = some s ∧ t σ H fun vs H1 => s vs H1 Q (E σ)
theorem pe_callVG {i : Nat} {S : Addr → Option Sp} (D : ∀ f s, S f = some s → ∃ fd ps, FnG X.prog X.w X.K X.mg X.base CXx k f fd ps s ∧ W.keepIn X.K (.ref f) = true ∧ Binds X.K fd ps []) (hr : Room k X.A) (hgd : X.A.guards = some []) (hN : X.N[i]? = some x) (hv : Vis X.env.scope x) (hx : ∀ σ, PassesAt CXx X σ (E σ))
    (ha : PA X (e :: es) t) (hdb : (x == ("__debug__" : Str)) = false) (hcd : (x == ("__classdict__" : Str)) = false) (he : starEach (e :: es) X.env = (false, eval e X.env) :: starEach es X.env) (hpl : (backTo pos (starEach es X.env)).any (·.1) = false) :
    PE X (.Call (.Name x p) (e :: es) [] pos) (tCallV i S E t) := by
  refine ⟨fun pins s σ H Q I ⟨f, sp, hs, hS, ht⟩ => ?_⟩
  obtain ⟨fd, ps, F, hk, hb⟩ := D f sp hS
  refine wpAny_Call_Name_kw (thn ((pe_var (pos := p) hN hv hdb hcd).run pins s σ H (fun v H1 => v = .ref f ∧ H1 = H) I ⟨_, hs, rfl, rfl⟩) fun u s1 ⟨v, H1, J1, rv, e1, e2⟩ => ?_)
  subst e1 e2
  obtain rfl : u = Value.ref f := rv
  refine W.callWith_K (h₀ := X.base) J1.ok.mod.kin hk ?_ he hpl
  exact thn (ha.run pos pins s1 σ _ _ J1 ht) fun us s2 ⟨vs, H2, J, r, q⟩ => ⟨J.kIn, run_fg F hr hgd hb (hx σ) J r q⟩
end
theorem law_callG {P : Program} {w : World} {K : PySem.W.Frag} {gm bb : Str → Option Value} {CX : CXT} {k : Nat} {fa aa : Addr} {tb : List (Addr × Addr)} {fd : FuncData} {x : Str} {sp : Sp} {sA : Shared} {vs : List Value} {nz : List Int}
    (kx : K.In sA.heap) (hgs : sA.heap.Ns mainGlobals gm) (hbx : sA.heap.Ns builtinsNs bb) (hbi : ∀ x : Str, x ≠ "__name__" → bb x = bootBuiltins x) (nolim : sA.heap.NoLimit) (hg : sA.gens = #[])
    (tT : ∀ pp ∈ tb, sA.heap.get? pp.2 = some { cls := .none, data := .fields #[] }) (tN : ∀ pp ∈ tb, K.lookup pp.2 = none) (C : ∀ pp ∈ tb, PySem.W.CodeHd sA.heap pp.1 pp.2)
    (hbmod : ∃ (bmod : Addr) (obj : Obj), gm "__builtins__" = some (.ref bmod) ∧ bmod ≠ builtinsNs ∧ sA.heap.get? bmod = some obj ∧ obj.cls = .type "module" ∧ obj.dict = some builtinsNs ∧ obj.data = .plain)
    (ha : sA.heap.get? aa = some { cls := .type "list", data := .seq vs.toArray }) (hi : IntsAre vs nz) (hl : nz.length ≤ sizeLine) (hr : Room k callerA)
    (F : ∀ base : Heap, K.In base → base.Ns mainGlobals gm → (∀ pp ∈ tb, TabB base gm pp.1 pp.2) → FnG P w K gm base CX k fa fd [x] sp) (hbind : ∀ (s : Shared) (uu : Value), BindsTo s fd ⟨[uu], []⟩ [(x, uu)])
    (hsp : ∀ Hh : Hp, (∀ pp ∈ tb, Hh pp.2 = some (.tbl #[])) → SqL K Hh aa (nz.map V.int) → sp [.ref aa] Hh (fun v _ => v = .bl true) fun _ _ _ => False)
    (hCX : ∀ Hh ee s', CX [] Hh sA (fun _ _ _ => False) ee s' → False) :
    codeAny (model P w) callerA (.call (.ref fa) ⟨[.ref aa], []⟩) (fun r s' => r = .ok (.ret (.bool true)) ∧ OldK sA.heap s'.heap ∧ s'.os = sA.os ∧ AllBare s'.gens) sA := by
  have rvs := vals_ints hi
  have lenvs := hi.length
  have isTb : ∀ bx : Addr, bx ∈ tb.map (·.2) → sA.heap.get? bx = some { cls := .none, data := .fields #[] } := fun bx hbx => by
    obtain ⟨pp, hp, ee⟩ := List.mem_map.mp hbx
    rw [← ee]
    exact tT pp hp
  have aNot : aa ∉ tb.map (·.2) := fun zz => by
    have qq := isTb aa zz
    rw [ha] at qq
    have z' : Data.seq vs.toArray _ = Data.fields #[] := congrArg Obj.data (Option.some.inj qq)
    cases z'
  have inTb : ∀ pp ∈ tb, pp.2 ∈ tb.map (·.2) := fun pp hp => List.mem_map.mpr ⟨pp, hp, rfl⟩
  have heart : ∀ Hh : Hp, (∀ pp ∈ tb, Hh pp.2 = some (.tbl #[])) → (∀ bx, Hh bx = none ∨ bx ∈ tb.map (·.2) ∨ ∃ oo xs, Hh bx = some (.frz oo (.lst xs))) → SqL K Hh aa (nz.map V.int) → HOk P w Hh sA.heap → (∀ bx, Hh bx ≠ none → bx = aa ∨ bx ∈ tb.map (·.2)) → (Hh aa ≠ none → K.lookup aa = none) →
      codeAny (model P w) callerA (.call (.ref fa) ⟨[.ref aa], []⟩) (fun r s' => r = .ok (.ret (.bool true)) ∧ OldK sA.heap s'.heap ∧ s'.os = sA.os ∧ AllBare s'.gens) sA := by
    intro Hh inH onO onS okH onA outK
    have toG : ∀ {bx : Addr} {oo : Obj}, sA.heap.get? bx = some oo → Hh bx = none → (hidT sA.heap Hh).get? bx = some oo := fun ee n => hidT_get ee n
    have offD : ∀ {bx : Addr} {oo : Obj}, sA.heap.get? bx = some oo → (∀ vs n, oo.data ≠ .seq vs n) → oo.data ≠ .fields #[] → Hh bx = none := fun {bx oo} ee h1 h2 => by
      cases qq : Hh bx with
      | none => rfl
      | some uu =>
        rcases onA bx (by rw [qq]; simp) with e' | e'
        · rw [e', ha] at ee
          cases ee
          exact (h1 _ _ rfl).elim
        · rw [isTb bx e'] at ee
          cases ee
          exact (h2 rfl).elim
    have offA : ∀ {bx : Addr} {oo : Obj} {es : Array DictEntry} {ep : Nat}, sA.heap.get? bx = some oo → oo.data = .dict es ep → Hh bx = none := fun {bx oo es ep} ee dd => by
      refine offD ee (fun vs n zz => ?_) fun zz => ?_
      · rw [dd] at zz
        cases zz
      · rw [dd] at zz
        cases zz
    have nsG : ∀ {bx : Addr} {mm : Str → Option Value}, sA.heap.Ns bx mm → (hidT sA.heap Hh).Ns bx mm := fun {bx mm} ⟨oo, es, ep, ee, dd, r⟩ => ⟨oo, es, ep, toG ee (offA ee dd), dd, r⟩
    have kG : K.In (hidT sA.heap Hh) := fun bx oo ee => toG (kx bx oo ee) (by
      cases qq : Hh bx with
      | none => rfl
      | some uu =>
        rcases onA bx (by rw [qq]; simp) with e' | e'
        · rw [e'] at ee qq
          rw [outK (by rw [qq]; simp)] at ee
          cases ee
        · obtain ⟨pp, hp, ep⟩ := List.mem_map.mp e'
          rw [← ep, tN pp hp] at ee
          cases ee)
    have mdG : L2.Mod K gm (hidT sA.heap Hh) := ⟨kG, nsG hgs, ⟨bb, nsG hbx, hbi⟩, let ⟨mc, h1, h2⟩ := nolim; ⟨mc, nsG h1, h2⟩⟩
    have tabsG : ∀ pp ∈ tb, TabB (hidT sA.heap Hh) gm pp.1 pp.2 := fun pp hp => by
      have hTp := tT pp hp
      refine ⟨?_, ?_, fun zz => ?_⟩
      · obtain ⟨oo, uus, file, tf, flags, tg, inF, text, tt, e1, r1, r2, r3, r4, r5, r6, r7, r8, hne⟩ := C pp hp
        refine ⟨oo, uus, file, tf, flags, tg, inF, text, tt, toG e1 (offD e1 (fun vs n zz => ?_) fun zz => ?_), r1, r2, r3, r4, r5, r6, r7, r8, hne⟩
        · rw [r2] at zz
          cases zz
        · rw [r2] at zz
          cases zz
          simp at r3
      · obtain ⟨bmod, obj, b1, b2, b3, b4, b5, b6⟩ := hbmod
        have nG : bmod ≠ mainGlobals := fun qq => by
          obtain ⟨oo, es, ep, ee, hd, _⟩ := hgs
          rw [qq, ee] at b3
          cases b3
          rw [hd] at b6
          cases b6
        have nP : bmod ≠ pp.2 := fun qq => by
          rw [qq, hTp] at b3
          cases b3
          cases b6
        refine ⟨bmod, obj, b1, b2, nG, nP, toG b3 (offD b3 (fun vs n zz => ?_) fun zz => ?_), b4, b5, b6⟩
        · rw [b6] at zz
          cases zz
        · rw [b6] at zz
          cases zz
      · obtain ⟨oo, es, ep, ee, hd, _⟩ := hgs
        rw [zz, hTp] at ee
        cases ee
        cases hd
    have envG : Env0 P w K gm (hidT sA.heap Hh) callerA [] sA Hh := ⟨rfl, mdG, fun bx oo ee => of_hidT ee, Nat.le_of_eq (hidT_size _ _), trivial, fun bx hbx => absurd (show bx ∈ ([] : List Addr) from hbx) (by simp), okH, .of_eq hg⟩
    refine codeAny_mono ((F _ kG (nsG hgs) tabsG).run callerA [] sA Hh ⟨[.ref aa], []⟩ [.ref aa] [.ref aa] _ _ hr rfl envG (hbind sA (.ref aa)) (.cons rfl .nil) (hsp Hh inH onS)) fun r s' hx => ?_
    cases r with
    | error ee => exact (hCX Hh ee s' hx).elim
    | ok fl =>
      cases fl with
      | next => exact False.elim hx
      | brk => exact False.elim hx
      | cont => exact False.elim hx
      | ret uu =>
        obtain ⟨v, H', osx, barex, unx, hok', r', qq⟩ := hx
        have q' : v = .bl true := qq
        subst q'
        obtain rfl : uu = Value.bool true := r'
        have stays : ∀ bx oo, bx ∉ tb.map (·.2) → sA.heap.get? bx = some oo → s'.heap.get? bx = some oo := fun bx oo nb ee => by
          cases qq : Hh bx with
          | none => exact unx.keep bx oo ee qq (by intro zz; exact absurd (show bx ∈ ([] : List Addr) from zz) (by simp)) (by simp)
          | some uu =>
            rcases onO bx with zz | zz | ⟨obj, xs, zz⟩
            · rw [qq] at zz; cases zz
            · exact absurd zz nb
            · have z2 := unx.frzs bx obj _ zz
              obtain ⟨e1, _⟩ := okH bx _ zz
              obtain ⟨e2, _⟩ := hok' bx _ z2
              rw [ee] at e1; cases e1
              exact e2
        have grew : ∀ pp ∈ tb, ∃ more : Array Value, s'.heap.get? pp.2 = some { cls := .none, data := .fields more } := fun pp hp => by
          obtain ⟨more, zz⟩ := unx.tbls pp.2 #[] (inH pp hp)
          exact ⟨_, hok' pp.2 _ zz⟩
        refine ⟨rfl, ⟨fun bx oo ee => ?_, fun bx oo ee => ?_⟩, osx, barex⟩
        · by_cases hbx : bx ∈ tb.map (·.2)
          · obtain ⟨pp, hp, ep⟩ := List.mem_map.mp hbx
            obtain ⟨more, hm⟩ := grew pp hp
            rw [← ep] at ee ⊢
            rw [tT pp hp] at ee
            cases ee
            exact .inr (.inl ⟨((C pp hp).tab (tT pp hp)).isCodeTable, rfl, #[], more, rfl, by rw [Array.empty_append]; exact hm⟩)
          · exact .inl (stays bx oo hbx ee)
        · by_cases hbx : bx ∈ tb.map (·.2)
          · obtain ⟨pp, hp, ep⟩ := List.mem_map.mp hbx
            obtain ⟨more, hm⟩ := grew pp hp
            rw [← ep]
            exact ⟨_, hm⟩
          · exact ⟨oo, stays bx oo hbx ee⟩
  cases hkx : K.lookup aa with
  | some oo =>
    have ee := kx aa oo hkx
    rw [ha] at ee
    cases ee
    refine heart (fun bx => if bx ∈ tb.map (·.2) then some (.tbl #[]) else none) (fun pp hp => if_pos (inTb pp hp)) (fun bx => ?_) (.inr ⟨_, vs.toArray, _, hkx, rfl, rfl, rfl, by rw [List.size_toArray, lenvs]; exact hl, by simpa using rvs⟩) (fun bx uu zz => ?_) (fun bx zz => ?_) fun zz => absurd (show (if aa ∈ tb.map (·.2) then some (HO.tbl #[]) else none) = none from if_neg aNot) zz
    · by_cases hbx : bx ∈ tb.map (·.2)
      · exact .inr (.inl hbx)
      · exact .inl (if_neg hbx)
    · by_cases hbx : bx ∈ tb.map (·.2)
      · have z' := (if_pos hbx).symm.trans zz
        cases z'
        exact isTb bx hbx
      · have z' := (if_neg hbx).symm.trans zz
        cases z'
    · by_cases hbx : bx ∈ tb.map (·.2)
      · exact .inr hbx
      · exact absurd (if_neg hbx) zz
  | none =>
    refine heart (fun bx => if bx = aa then some (.frz { cls := .type "list", data := .seq vs.toArray } (.lst (nz.map V.int))) else if bx ∈ tb.map (·.2) then some (.tbl #[]) else none) (fun pp hp => (if_neg (show ¬ pp.2 = aa from fun zz => aNot (by rw [← zz]; exact inTb pp hp))).trans (if_pos (inTb pp hp))) (fun bx => ?_)
      (.inl (.inr ⟨{ cls := .type "list", data := .seq vs.toArray }, if_pos rfl⟩)) (fun bx uu zz => ?_) (fun bx zz => ?_) fun _ => hkx
    · by_cases hbx : bx = aa
      · exact .inr (.inr ⟨_, _, if_pos hbx⟩)
      · by_cases hb2 : bx ∈ tb.map (·.2)
        · exact .inr (.inl hb2)
        · exact .inl ((if_neg hbx).trans (if_neg hb2))
    · by_cases hbx : bx = aa
      · have z' := (if_pos hbx).symm.trans zz
        cases z'
        rw [hbx]
        exact ⟨ha, by rw [List.length_map]; exact hl, vs, _, rvs, ha⟩
      · have z1 := (if_neg hbx).symm.trans zz
        by_cases hb2 : bx ∈ tb.map (·.2)
        · have z' := (if_pos hb2).symm.trans z1
          cases z'
          exact isTb bx hb2
        · have z' := (if_neg hb2).symm.trans z1
          cases z'
    · by_cases hbx : bx = aa
      · exact .inl hbx
      · by_cases hb2 : bx ∈ tb.map (·.2)
        · exact .inr hb2
        · exact absurd ((if_neg hbx).trans (if_neg hb2)) zz
end Py
end
section
set_option Elab.async false
set_option linter.all false
set_option autoImplicit false
set_option maxRecDepth 100000
/-! Rules, 7: calls of defs. -/
namespace Py
open PySem PySem.Spec PyProof.Rows L2

section
variable {K : W.Frag} {B : Addr → Prop} {P P' R' : List Ent} {H H' : Hp}
theorem NN.app (a : Addr) : NN B (P ++ P') a ↔ NN (NN B P') P a := by
  constructor
  · rintro (⟨p, hp, o⟩ | q)
    · rcases List.mem_append.mp hp with hp | hp
      · exact .inl ⟨p, hp, o⟩
      · exact .inr (.inl ⟨p, hp, o⟩)
    · exact .inr (.inr q)
  · rintro (⟨p, hp, o⟩ | ⟨p, hp, o⟩ | q)
    · exact .inl ⟨p, List.mem_append_left _ hp, o⟩
    · exact .inl ⟨p, List.mem_append_right _ hp, o⟩
    · exact .inr q
/-- a part of the entries for itself, the others' lists barred -/
theorem SimP.split (s : SimP K B (P ++ P') H) : SimP K (NN B P') P H := by
  have hin := List.pairwise_append.mp s.inj
  refine ⟨fun p hp d e => ?_, fun p hp ds e => ?_, hin.1⟩
  · obtain ⟨v, e2, r⟩ := s.val p (List.mem_append_left _ hp) d e
    exact ⟨v, e2, r.sub fun a q => (NN.app a).mpr q⟩
  · obtain ⟨a, vs, e1, e2, r, nb⟩ := s.own p (List.mem_append_left _ hp) ds e
    refine ⟨a, vs, e1, e2, r.sub fun a q => (NN.app a).mpr q, ?_⟩
    rintro (⟨q, hq, o⟩ | q)
    · exact hin.2.2 p hp q hq a ⟨⟨ds, e⟩, e1⟩ o
    · exact nb q
/-- together again, behind a call -/
theorem SimP.join (s : SimP K B (P ++ P') H) (r : SimP K (NN B P') R' H') (pres : ∀ a o, H a = some o → Nt o → ¬ (∃ p ∈ P, Owns p a) → H' a = some o) (new : ∀ a, (∃ p ∈ R', Owns p a) → (∃ p ∈ P, Owns p a) ∨ ¬ Old H a) :
    SimP K B (R' ++ P') H' := by
  have hin := List.pairwise_append.mp s.inj
  have hW : ∀ a, (∃ p ∈ P, Owns p a) → NN B (P ++ P') a ∧ ∃ vs, H a = some (.lst vs) := fun a ⟨p, hp, ⟨ds, e⟩, e2⟩ => by
    obtain ⟨b, vs, e1, e3, _⟩ := s.own p (List.mem_append_left _ hp) ds e
    rw [e2] at e1; cases e1
    exact ⟨.inl ⟨p, List.mem_append_left _ hp, ⟨ds, e⟩, e2⟩, vs, e3⟩
  have h2 : ∀ a, NN B (R' ++ P') a → NN B (P ++ P') a ∨ ¬ Old H a := fun a q => by
    rcases (NN.app a).mp q with ⟨p, hp, o⟩ | q
    · rcases new a ⟨p, hp, o⟩ with z | z
      · exact .inl (hW a z).1
      · exact .inr z
    · exact .inl ((NN.app a).mpr (.inr q))
  refine ⟨fun p hp d e => ?_, fun p hp ds e => ?_, List.pairwise_append.mpr ⟨r.inj, hin.2.1, fun p hp q hq a o o' => ?_⟩⟩
  · rcases List.mem_append.mp hp with hp | hp
    · obtain ⟨v, e2, q⟩ := r.val p hp d e
      exact ⟨v, e2, q.sub fun a q => (NN.app a).mp q⟩
    · obtain ⟨v, e2, q⟩ := s.val p (List.mem_append_right _ hp) d e
      exact ⟨v, e2, RelD.mono pres hW h2 _ _ q⟩
  · rcases List.mem_append.mp hp with hp | hp
    · obtain ⟨a, vs, e1, e2, q, nb⟩ := r.own p hp ds e
      exact ⟨a, vs, e1, e2, q.sub fun a q => (NN.app a).mp q, fun b => nb (.inr b)⟩
    · obtain ⟨a, vs, e1, e2, q, nb⟩ := s.own p (List.mem_append_right _ hp) ds e
      refine ⟨a, vs, e1, pres _ _ e2 (nt_lst _) (fun ⟨p', hp', o'⟩ => ?_), RelL.mono pres hW h2 _ _ q, nb⟩
      exact hin.2.2 p' hp' p hp a o' ⟨⟨ds, e⟩, e1⟩
  · obtain ⟨⟨ds, e⟩, e2⟩ := o
    obtain ⟨b, vs, e1, _, _, nb⟩ := r.own p hp ds e
    rw [e2] at e1; cases e1
    exact nb (.inl ⟨q, hq, o'⟩)
end

/-- the places of the lists handed in -/
def ioVals : List Bool → List V → List V
  | true :: ms, v :: vs => v :: ioVals ms vs
  | false :: ms, _ :: vs => ioVals ms vs
  | _, _ => []
def pairUp (ss : List Sl) (vs : List V) : List Ent := ss.zip (vs.map some)
/-- what a call promises -/
def CallOk (ts : List (Addr × Str)) (K : W.Frag) (B : Addr → Prop) (P : List Ent) (md : List Bool) (vs : List V) (H : Hp) (Q : VK) (E : XK) : CO → Prop
  | .ok r outs => ∀ x H', outs.length = (ioVals md vs).length → SimP K B ((r, some x) :: pairUp outs (ioVals md vs)) H' → (∀ a o, H a = some o → Nt o → ¬ (∃ p ∈ P, Owns p a) → H' a = some o) → (∀ a, Old H a → Old H' a) → LamX.Tabs ts H' →
      (∀ a, (∃ p ∈ (r, some x) :: pairUp outs (ioVals md vs), Owns p a) → (∃ p ∈ P, Owns p a) ∨ ¬ Old H a) → Q x H'
  | .ex C d => ∀ v H' dx, SimP K B [(.val d, some v)] H' → (∀ a o, H a = some o → Nt o → ¬ (∃ p ∈ P, Owns p a) → H' a = some o) → (∀ a, Old H a → Old H' a) → LamX.Tabs ts H' → H' dx = some (.xd [("value", v)]) → E (.ref C) (some dx) H'
  | .no => False
def modesFit : List Bool → List Sl → Prop
  | [], [] => True
  | m :: ms, a :: as => ((∃ ds, a = .own ds) → m = true) ∧ modesFit ms as
  | _, _ => False
def SpF (ts : List (Addr × Str)) (K : W.Frag) (np : Nat) (md : List Bool) (call : List Sl → CO) : Sp := fun vs H Q E => vs.length = np ∧ ∃ (B : Addr → Prop) (args : List Sl), args.length = vs.length ∧ modesFit md args ∧ SimP K B (pairUp args vs) H ∧ (∀ a, B a → Old H a) ∧ LamX.Tabs ts H ∧ CallOk ts K B (pairUp args vs) md vs H Q E (call args)

section
variable {K : W.Frag} {tt : TTs} {G : Gh tt} {ρ ρ' ρ1 : Fr} {hs hs' hs1 es : List Ent} {σ : L2.St} {H H' : Hp} {Q : VK}
theorem Sim.take (S : Sim K G ρ hs σ H) {i : Nat} {ds : List D} {o : Option V} (h1 : ρ[i]? = some (.own ds)) (h2 : σ[i]? = some o) : Sim K G (ρ.set i .no) ((.own ds, o) :: hs) σ H := by
  have u := unfocus (s' := .no) (o' := o) h1 h2 ((.own ds, o) :: hs)
  rw [set_self h2] at u
  have f := focus h1 h2 hs
  have q : SimP K G.B ((.own ds, o) :: restAt ρ σ i hs) H := S.sp.perm f
  have e : ((.no, o) :: (.own ds, o) :: restAt ρ σ i hs : List Ent).Perm ((.no, o) :: restAt ρ σ i ((.own ds, o) :: hs)) := (List.perm_middle.symm).cons _
  refine ⟨by rw [List.length_set]; exact S.len, ((q.push_no o).perm e).perm u.symm, S.frm, S.trk, fun a ⟨p, hp, w⟩ => ?_, S.br, S.tabs, S.io⟩
  have hp := e.mem_iff.mpr (u.mem_iff.mp hp)
  rcases List.mem_cons.mp hp with rfl | hp
  · obtain ⟨⟨_, e⟩, _⟩ := w; cases e
  · exact S.ow a ⟨p, f.mem_iff.mpr hp, w⟩
theorem Sim.put {s : Sl} {o : Option V} {i : Nat} {s0 : Sl} (S : Sim K G ρ ((s, o) :: hs) σ H) (h1 : ρ[i]? = some s0) (h2 : σ[i]? = some o) : Sim K G (ρ.set i s) hs σ H := by
  have u := unfocus (s' := s) (o' := o) h1 h2 hs
  rw [set_self h2] at u
  refine S.subperm (P := (ρ.zip σ).eraseIdx i ++ (s, o) :: hs) ((List.eraseIdx_sublist _ _).append (.refl _)) ?_ (by rw [List.length_set]; exact S.len) S.io
  exact List.perm_middle.trans u.symm
inductive FromOk (n : Nat) (σ : L2.St) : List (Option Nat) → List V → Prop
  | nil : FromOk n σ [] []
  | none {fs : List (Option Nat)} {v : V} {vs : List V} : FromOk n σ fs vs → FromOk n σ (none :: fs) (v :: vs)
  | some {i : Nat} {fs : List (Option Nat)} {v : V} {vs : List V} : i < n → σ[i]? = some (some v) → FromOk n σ fs vs → FromOk n σ (some i :: fs) (v :: vs)
theorem esc_len {r : R} {d : D} (h : r.esc ρ = .ok d ρ') : ρ'.length = ρ.length := by
  cases r with
  | dt d => cases h; rfl
  | new ds => cases h; rfl
  | sl i =>
    simp only [R.esc] at h
    split at h
    · cases h; rfl
    · cases h; rw [List.length_set]
    · cases h
theorem pairUp_cons (s : Sl) (ss : List Sl) (v : V) (vs : List V) : pairUp (s :: ss) (v :: vs) = (s, some v) :: pairUp ss vs := rfl
theorem prep_ok : ∀ {md : List Bool} {rs : List R} {xs : List V} {es : List Ent} {ρ ρ1 : Fr} {args : List Sl} {fr : List (Option Nat)} {hs : List Ent}, EntsR σ rs xs es → Sim K G ρ (es ++ hs) σ H → prep md rs ρ = some (args, fr, ρ1) →
    Sim K G ρ1 (pairUp args xs ++ hs) σ H ∧ args.length = xs.length ∧ modesFit md args ∧ FromOk ρ1.length σ fr (ioVals md xs) ∧ ρ1.length = ρ.length
  | [], _, _, _, ρ, _, _, _, hs, .nil, S, h => by cases h; exact ⟨S, rfl, trivial, .nil, rfl⟩
  | _ :: _, _, _, _, _, _, _, _, _, .nil, S, h => by simp [prep] at h
  | [], _, _, _, _, _, _, _, _, .cons _ _, S, h => by simp [prep] at h
  | false :: md, _, _, _, ρ, ρ1, args, fr, hs, .cons (r := r) (x := x) (xs := xs) (es := es) al E, S, h => by
    simp only [prep] at h
    cases e : r.esc ρ with
    | no => rw [e] at h; cases h
    | ex C d => exact (esc_nex e).elim
    | ok d ρ' =>
      rw [e] at h
      obtain ⟨⟨a, b, c⟩, h1, h2⟩ := map_some h
      cases h2
      rw [List.append_assoc] at S
      have S1 : Sim K G ρ' (es ++ (.val d, some x) :: hs) σ H := (S.esc al e).held (.refl _) List.perm_middle.symm
      obtain ⟨S2, l2, m2, f2, n2⟩ := prep_ok E S1 h1
      exact ⟨S2.held (.refl _) List.perm_middle, by simp [l2], ⟨(fun ⟨_, q⟩ => nomatch q), m2⟩, f2, n2.trans (esc_len e)⟩
  | true :: md, _, _, _, ρ, ρ1, args, fr, hs, .cons (r := r) (x := x) (xs := xs) (es := es) al E, S, h => by
    cases r with
    | dt d => simp [prep] at h
    | new ds =>
      simp only [prep] at h
      obtain ⟨⟨a, b, c⟩, h1, h2⟩ := map_some h
      cases h2
      have S : Sim K G ρ ((.own ds, some x) :: (es ++ hs)) σ H := S
      have S1 : Sim K G ρ (es ++ (.own ds, some x) :: hs) σ H := S.held (.refl _) List.perm_middle.symm
      obtain ⟨S2, l2, m2, f2, n2⟩ := prep_ok E S1 h1
      exact ⟨S2.held (.refl _) List.perm_middle, by simp [l2], ⟨fun _ => rfl, m2⟩, .none f2, n2⟩
    | sl i =>
      simp only [prep] at h
      split at h
      · rename_i ds e
        obtain ⟨⟨a, b, c⟩, h1, h2⟩ := map_some h
        cases h2
        have al : σ[i]? = some (some x) := al
        have S1 : Sim K G (ρ.set i .no) (es ++ (.own ds, some x) :: hs) σ H := (S.take e al).held (.refl _) List.perm_middle.symm
        obtain ⟨S2, l2, m2, f2, n2⟩ := prep_ok E S1 h1
        have hl : c.length = ρ.length := by rw [n2, List.length_set]
        exact ⟨S2.held (.refl _) List.perm_middle, by simp [l2], ⟨fun _ => rfl, m2⟩, .some (by rw [hl]; exact (List.getElem?_eq_some_iff.mp e).1) al f2, hl⟩
      · cases h
theorem back_ok : ∀ {fr : List (Option Nat)} {outs : List Sl} {vs : List V} {ρ ρ2 : Fr} {hs : List Ent}, FromOk ρ.length σ fr vs → Sim K G ρ (pairUp outs vs ++ hs) σ H → outs.length = vs.length → back fr outs ρ = some ρ2 → Sim K G ρ2 hs σ H
  | _, [], _, ρ, _, hs, .nil, S, _, h => by cases h; exact S
  | _, o :: outs, _, ρ, _, hs, .none (v := v) (vs := vs) f, S, hl, h => by
    exact back_ok f (S.held (List.sublist_cons_self _ _) (.refl _)) (by simpa using hl) h
  | _, o :: outs, _, ρ, _, hs, .some (i := i) (v := v) (vs := vs) hi e f, S, hl, h => by
    have hi' : ρ[i]? = some ρ[i] := List.getElem?_eq_getElem hi
    have S1 : Sim K G (ρ.set i o) (pairUp outs vs ++ hs) σ H := S.put hi' e
    exact back_ok (by rw [List.length_set]; exact f) S1 (by simpa using hl) h
/-- a call, from the caller -/
theorem call_step {Φ : Fx} {f : Nat} {np : Nat} {rs : List R} {xs : List V} {Q : VK} (hE : EntsR σ rs xs es) (S : Sim K G ρ (es ++ hs) σ H) (hn : xs.length = np) (h : FinR K G hs σ Q (callM Φ f rs ρ)) : SpF tt.ts K np (Φ.md f) (Φ.call f) xs H Q tt.E := by
  unfold callM at h
  cases e : prep (Φ.md f) rs ρ with
  | none => rw [e] at h; exact h.elim
  | some t =>
    obtain ⟨args, fr, ρ1⟩ := t
    rw [e] at h
    dsimp only at h
    obtain ⟨S1, l1, m1, f1, n1⟩ := prep_ok hE S e
    have sp : SimP K G.B (pairUp args xs ++ (ρ1.zip σ ++ hs)) H := S1.sp.perm (by
      rw [← List.append_assoc, ← List.append_assoc]
      exact List.perm_append_comm.append_right hs)
    refine ⟨hn, NN G.B (ρ1.zip σ ++ hs), args, l1, m1, sp.split, fun a q => ?_, S.tabs, ?_⟩
    · rcases q with ⟨p, hp, ⟨ds, e1⟩, e2⟩ | q
      · obtain ⟨b, vs, e3, e4, _⟩ := sp.own p (List.mem_append_right _ hp) ds e1
        rw [e2] at e3; cases e3
        exact ⟨_, e4, nt_lst _⟩
      · obtain ⟨⟨o, e1, e2⟩, e3⟩ := S.br a q
        exact ⟨o, S.frm a o e1 e2 e3, e2⟩
    · cases ec : Φ.call f args with
      | no => rw [ec] at h; exact h.elim
      | ex C d =>
        rw [ec] at h
        have h : FinX K G C d := h
        intro v H' dx hR hpres htrk htab hdx
        refine h v H' dx ⟨⟨fun p hp d' e => ?_, fun p hp ds e => ?_, List.pairwise_singleton _ _⟩, fun a o q t n => hpres a o (S1.frm a o q t n) t fun ⟨p, hp, w⟩ => ?_, fun a q => htrk a (S1.trk a q), htab⟩ hdx
        · obtain ⟨v', e1, r1⟩ := hR.val p hp d' e
          exact ⟨v', e1, r1.sub fun b z => z.imp id fun z => .inr z⟩
        · rw [List.mem_singleton.mp hp] at e; cases e
        · rcases S1.ow a ⟨p, List.mem_append_right _ (List.mem_append_left _ hp), w⟩ with z | z
          · exact n z
          · exact z ⟨o, q, t⟩
      | ok r outs =>
        rw [ec] at h
        dsimp only at h
        intro x H' ho hR hpres htrk htab hnew
        cases eb : back fr outs ρ1 with
        | none => rw [eb] at h; exact h.elim
        | some ρ2 =>
          cases er : ofSl r with
          | none => rw [eb, er] at h; exact h.elim
          | some r' =>
            rw [eb, er] at h
            have J := sp.join hR hpres hnew
            have ownc : ∀ a, (∃ p ∈ pairUp args xs, Owns p a) → G.A a ∨ ¬ Old G.H0 a := fun a ⟨p, hp, o⟩ => S1.ow a ⟨p, List.mem_append_right _ (List.mem_append_left _ hp), o⟩
            have trk2 : ∀ a, ¬ Old H a → G.A a ∨ ¬ Old G.H0 a := fun a n => Classical.byCases (fun z : G.A a => .inl z) fun z => .inr fun ⟨o, e1, e2⟩ => n ⟨o, S1.frm a o e1 e2 z, e2⟩
            have S2 : Sim K G ρ1 (((r, some x) :: pairUp outs (ioVals (Φ.md f) xs)) ++ hs) σ H' := by
              refine ⟨S1.len, J.perm ?_, fun a o q t n => hpres a o (S1.frm a o q t n) t (fun w => ?_), fun a q => htrk a (S1.trk a q), fun a ⟨p, hp, o⟩ => ?_, S1.br, htab, S1.io⟩
              · rw [← List.append_assoc, ← List.append_assoc]
                exact List.perm_append_comm.append_right hs
              · rcases ownc a w with z | z
                · exact n z
                · exact z ⟨o, q, t⟩
              · rcases List.mem_append.mp hp with hp | hp
                · exact S1.ow a ⟨p, List.mem_append_left _ hp, o⟩
                · rcases List.mem_append.mp hp with hp | hp
                  · rcases hnew a ⟨p, hp, o⟩ with z | z
                    · exact ownc a z
                    · exact trk2 a z
                  · exact S1.ow a ⟨p, List.mem_append_right _ (List.mem_append_right _ hp), o⟩
            have S3 : Sim K G ρ2 ((r, some x) :: hs) σ H' := back_ok f1 (S2.held (.refl _) List.perm_middle.symm) ho eb
            cases r with
            | no => cases er
            | val d => cases er; exact h x H' S3 trivial
            | own ds => cases er; exact h x H' S3 trivial
end
section
variable {tt : TTs} {X : Cx} {a : Expr} {p : Pos}
theorem EntsR.len {σ : L2.St} {rs : List R} {xs : List V} {es : List Ent} (E : EntsR σ rs xs es) : xs.length = rs.length := by
  induction E with
  | nil => rfl
  | cons _ _ ih => simp [ih]
theorem se_call {k : Nat} {f : Addr} {fd : FuncData} {ps : List Str} {Φ : Fx} {i np : Nat} {x : Str} {px : Pos} {es : List Expr} {ml : Fr → Out (List R)} (F : FnG X.prog X.w X.K X.mg X.base (L2.CX X.prog X.w) k f fd ps (SpF tt.ts X.K np (Φ.md i) (Φ.call i))) (tk : Takes X fun cls d _ H => tt.E cls d H) (hr : Room k X.A) (hgd : X.A.guards = some []) (hg : Gl X x) (hm : X.mg x = some (.ref f))
    (hk : W.keepIn X.K (.ref f) = true) (hb : Binds X.K fd ps []) (ha : PA X (a :: es) (TR tt X.K ml)) (hd : (x == ("__debug__" : Str)) = false) (he : starEach (a :: es) X.env = (false, eval a X.env) :: starEach es X.env) (hpl : (backTo p (starEach es X.env)).any (·.1) = false)
    (hn : ∀ ρ rs ρ', ml ρ = .ok rs ρ' → rs.length = np) :
    PE X (.Call (.Name x px) (a :: es) [] p) (T tt X.K fun ρ => (ml ρ).bind fun rs ρ => callM Φ i rs ρ) :=
  pe_imp (pe_callG F hr hgd hg hm hk hb (fun σ => passAt tk σ) ha hd he hpl) fun σ H Q ⟨G, ρ, hs, S, h⟩ => by
    cases e : ml ρ with
    | no => simp only [e] at h; exact h.elim
    | ex C d =>
      simp only [e, Out.bind_ex] at h
      refine ⟨G, ρ, hs, S, ?_⟩
      rw [e]
      exact h
    | ok rs ρ1 =>
      simp only [e, Out.bind_ok] at h
      refine ⟨G, ρ, hs, S, ?_⟩
      rw [e]
      intro xs es H1 E S1
      exact call_step E S1 (E.len.trans (hn _ _ _ e)) h
end
end Py
end
section
set_option Elab.async false
set_option linter.all false
set_option autoImplicit false
set_option maxRecDepth 100000
/-! Rules, 8: statements. -/
namespace Py
open PySem PySem.Spec PyProof.Rows L2

def FinS {tt : TTs} (K : W.Frag) (G : Gh tt) (hs : List Ent) (D : Ends) : SO → Prop
  | .nx ρ => ∀ σ H, Sim K G ρ hs σ H → D.nx σ H
  | .rt r ρ => ∀ x σ H, Sim K G ρ (ents r x ++ hs) σ H → sameAt r x σ → D.rt x H
  | .bk ρ => ∀ σ H, Sim K G ρ hs σ H → D.bk σ H
  | .ct ρ => ∀ σ H, Sim K G ρ hs σ H → D.ct σ H
  | .ex C d => FinX K G C d
  | .no => False
/-- a statement's ends without a next state -/
structure EndsS (F : SO → Prop) (E : Nat → D → Prop) : Prop where
  no : ¬ F .no
  ex : ∀ C d, F (.ex C d) → E C d
def IoOk {tt : TTs} (io : List Nat) (G : Gh tt) : Prop := ∀ p ∈ G.io, io.contains p.1 = true
def TSm (tt : TTs) (K : W.Frag) (io : List Nat) (m : Fr → SO) : TS := fun D σ H => ∃ (G : Gh tt) (ρ : Fr) (hs : List Ent), Sim K G ρ hs σ H ∧ IoOk io G ∧ FinS K G hs D (m ρ)

section
variable {K : W.Frag} {tt : TTs} {G : Gh tt} {ρ ρ' ρ1 : Fr} {hs hs' hs1 es : List Ent} {σ : L2.St} {H H' : Hp} {D : Ends} {io : List Nat}
theorem FinS.no : EndsS (FinS K G hs D) (FinX K G) := ⟨fun h => h, fun _ _ h => h⟩
theorem toS_split {α : Type} {o : Out α} {k : α → Fr → SO} {F : SO → Prop} {E : Nat → Py.D → Prop} (hno : EndsS F E) (h : F (o.toS k)) : Thn E o fun r ρ' => F (k r ρ') := by
  cases o with
  | ok r ρ => exact h
  | ex C d => exact hno.ex C d h
  | no => exact hno.no h
theorem FinS.opt {o : Option Fr} (h : FinS K G hs D (optS o)) : ∃ ρ, o = some ρ ∧ FinS K G hs D (.nx ρ) := by
  cases o with
  | some ρ => exact ⟨ρ, rfl, h⟩
  | none => exact h.elim
/-- a value is stored in a slot -/
theorem Sim.store {s : Sl} {x : V} {i : Nat} (S : Sim K G ρ ((s, some x) :: hs) σ H) (hio : IoOk io G) (hi : io.contains i = false) : Sim K G (ρ.set i s) hs (σ.set i (some x)) H := by
  have hne : ∀ p ∈ G.io, p.1 ≠ i := fun p hp e => by have := hio p hp; rw [e, hi] at this; cases this
  have hio' : ∀ p ∈ G.io, (σ.set i (some x))[p.1]? = some (some p.2) := fun p hp => by rw [List.getElem?_set_ne (Ne.symm (hne p hp))]; exact S.io p hp
  by_cases hl : i < ρ.length
  · have hl2 : i < σ.length := S.len ▸ hl
    have u := unfocus (s' := s) (o' := some x) (List.getElem?_eq_getElem hl) (List.getElem?_eq_getElem hl2) hs
    exact S.subperm (P := (ρ.zip σ).eraseIdx i ++ (s, some x) :: hs) ((List.eraseIdx_sublist _ _).append (.refl _)) (List.perm_middle.trans u.symm) (by rw [List.length_set, List.length_set]; exact S.len) hio'
  · have e1 : ρ.set i s = ρ := List.set_eq_of_length_le (by omega)
    have e2 : σ.set i (some x) = σ := List.set_eq_of_length_le (by rw [← S.len]; omega)
    rw [e1, e2]
    exact S.drop
theorem Sim.putR {r : R} {x : V} {i : Nat} (S : Sim K G ρ (ents r x ++ hs) σ H) (al : sameAt r x σ) (hio : IoOk io G) (h : putR io i r ρ = some ρ') : Sim K G ρ' hs (σ.set i (some x)) H := by
  unfold Py.putR at h
  cases hc : io.contains i with
  | true => rw [hc] at h; cases h
  | false =>
    rw [hc] at h
    rw [if_neg Bool.false_ne_true] at h
    cases r with
    | dt d => cases h; exact Sim.store S hio hc
    | new ds => cases h; exact Sim.store S hio hc
    | sl j =>
      dsimp only at h
      cases e : (R.sl j).esc ρ with
      | no => rw [e] at h; cases h
      | ex C d => exact (esc_nex e).elim
      | ok d ρ1 => rw [e] at h; cases h; exact (Sim.store (S.esc al e) hio hc)
end
section
variable {tt : TTs} {X : Cx} {a b c : Expr} {ma mb mc : Fr → Out R} {md : Fr → Out D} {p : Pos} {io : List Nat}
theorem ss_nil : PSs X [] (TSm tt X.K io fun ρ => .nx ρ) := pss_imp pss_nil fun D σ H ⟨G, ρ, hs, S, _, h⟩ => h σ H S
theorem ss_cons {s : Stmt} {r : List Stmt} {m1 m2 : Fr → SO} (h1 : PS X s (TSm tt X.K io m1)) (h2 : PSs X r (TSm tt X.K io m2)) : PSs X (s :: r) (TSm tt X.K io fun ρ => (m1 ρ).thn m2) :=
  pss_imp (pss_cons h1 h2) fun D σ H ⟨G, ρ, hs, S, hio, h⟩ => by
    refine ⟨G, ρ, hs, S, hio, ?_⟩
    cases e : m1 ρ with
    | nx ρ1 => simp only [e, SO.thn_nx] at h; exact fun σ1 H1 S1 => ⟨G, ρ1, hs, S1, hio, h⟩
    | rt r ρ1 => simp only [e, SO.thn_rt] at h; exact h
    | bk ρ1 => simp only [e, SO.thn_bk] at h; exact h
    | ct ρ1 => simp only [e, SO.thn_ct] at h; exact h
    | ex C d => simp only [e, SO.thn_ex] at h; exact h
    | no => simp only [e, SO.thn_no] at h; exact h
theorem ss_pass : PS X (.Pass p) (TSm tt X.K io fun ρ => .nx ρ) := ps_imp ps_pass fun D σ H ⟨G, ρ, hs, S, _, h⟩ => h σ H S
theorem ss_brk : PS X (.Break p) (TSm tt X.K io fun ρ => .bk ρ) := ps_imp ps_break fun D σ H ⟨G, ρ, hs, S, _, h⟩ => h σ H S
theorem ss_cont : PS X (.Continue p) (TSm tt X.K io fun ρ => .ct ρ) := ps_imp ps_continue fun D σ H ⟨G, ρ, hs, S, _, h⟩ => h σ H S
theorem ss_nev {s : Stmt} : PS X s (TSm tt X.K io fun _ => .no) := ps_imp ps_never fun D σ H ⟨G, ρ, hs, S, _, h⟩ => h
theorem ss_ret (ha : PE X a (T tt X.K ma)) : PS X (.Return (some a) p) (TSm tt X.K io fun ρ => (ma ρ).toS fun r ρ => .rt r ρ) :=
  ps_imp (ps_ret ha) fun D σ H ⟨G, ρ, hs, S, _, h⟩ => T.mono (T.ask S (toS_split FinS.no h)) fun x H1 ⟨r, ρ1, S1, a1, h1⟩ => h1 x σ H1 S1 a1
theorem ss_exp (ha : PE X a (T tt X.K ma)) (hs : swapsWith a none p.line X.env = pure false) : PS X (.Expr a p) (TSm tt X.K io fun ρ => (ma ρ).toS fun _ ρ => .nx ρ) :=
  ps_imp (ps_expr ha hs) fun D σ H ⟨G, ρ, hs, S, _, h⟩ => T.mono (T.ask S (toS_split FinS.no h)) fun x H1 ⟨r, ρ1, S1, a1, h1⟩ => h1 σ H1 S1.drops
theorem ss_iff {tm : Fr → Out Bool} {s t : List Stmt} {m1 m2 : Fr → SO} (hc : PT X c (TB tt X.K tm)) (h1 : PSs X s (TSm tt X.K io m1)) (h2 : PSs X t (TSm tt X.K io m2)) :
    PS X (.If c s t p) (TSm tt X.K io fun ρ => (tm ρ).toS fun k ρ => if k then m1 ρ else m2 ρ) :=
  ps_imp (ps_if hc h1 h2) fun D σ H ⟨G, ρ, hs, S, hio, h⟩ => TB.mono (TB.ask S (toS_split FinS.no h)) fun k H1 ⟨ρ1, S1, h1⟩ => by
    cases k with
    | true => exact ⟨G, ρ1, hs, S1, hio, h1⟩
    | false => exact ⟨G, ρ1, hs, S1, hio, h1⟩
theorem ss_asg {i : Nat} {x : Str} {px : Pos} (hN : X.N.Nodup) (hi : X.N[i]? = some x) (hx : Loc X.env.scope x) (hf : X.fn x = true ∨ X.env.scope.names.lookup x = some .local) (ha : PE X a (T tt X.K ma)) (hs : swapsWith a (some (.Name x px)) p.line X.env = pure false) :
    PS X (.Assign [.Name x px] a p) (TSm tt X.K io fun ρ => (ma ρ).toS fun r ρ => optS (putR io i r ρ)) :=
  ps_imp (ps_set hN hi hx ha hs hf) fun D σ H ⟨G, ρ, hs, S, hio, h⟩ => T.mono (T.ask S (toS_split FinS.no h)) fun x H1 ⟨r, ρ1, S1, a1, h1⟩ => by
    obtain ⟨ρ2, e, h2⟩ := FinS.opt h1
    exact h2 _ _ (Sim.putR S1 a1 hio e)
theorem ss_par {i j : Nat} {x y : Str} {px py pt : Pos} {kt k2 : Nat} {pt2 : Pos} (hc : X.calm = true) (hN : X.N.Nodup) (hi : X.N[i]? = some x) (hj : X.N[j]? = some y)
    (hx : X.env.scope.names.lookup x = some .local) (hy : X.env.scope.names.lookup y = some .local) (hij : i ≠ j) (ha : PE X a (T tt X.K ma)) (hb : PE X b (T tt X.K mb)) (hs1 : starEach [a, b] X.env = (false, eval a X.env) :: starEach [b] X.env) (hs2 : starEach [b] X.env = (false, eval b X.env) :: starEach [] X.env)
    (hw : swappedStores [.Tuple [.Name x px, .Name y py] kt pt] (.Tuple [a, b] k2 pt2) X.env = pure (some [x, y])) :
    PS X (.Assign [.Tuple [.Name x px, .Name y py] kt pt] (.Tuple [a, b] k2 pt2) p) (TSm tt X.K io fun ρ => (ma ρ).toS fun r ρ => (mb ρ).toS fun q ρ => match r, q with
      | .sl _, _ => .no
      | _, .sl _ => .no
      | r, q => if i = j then .no else optS ((putR io i r ρ).bind fun ρ => putR io j q ρ)) :=
  ps_imp (ps_par hc hN hi hj hij hx hy (pa_cons ha (pa_cons hb pa_nil hs2) hs1) hw) fun D σ H ⟨G, ρ, hs, S, hio, h⟩ => by
    refine T.mono (T.ask S (toS_split FinS.no h)) fun x H1 ⟨r, ρ1, S1, a1, h1⟩ => ?_
    refine T.mono (T.ask S1 (toS_split FinS.no h1)) fun y H2 ⟨q, ρ2, S2, a2, h2⟩ => ?_
    have fin : ∀ {ρ3 : Fr}, (putR io i r ρ2).bind (fun ρ => putR io j q ρ) = some ρ3 → FinS X.K G hs D (.nx ρ3) → (∀ k, r ≠ .sl k) → (∀ k, q ≠ .sl k) → ∃ v w, [x, y] = [v, w] ∧ D.nx ((σ.set i (some v)).set j (some w)) H2 := fun {ρ3} e h3 nr nq => by
      obtain ⟨ρ4, e1, e2⟩ := Option.bind_eq_some_iff.mp e
      have S3 : Sim X.K G ρ2 (ents r x ++ (ents q y ++ hs)) σ H2 := S2.held (.refl _) (by
        rw [← List.append_assoc, ← List.append_assoc]
        exact List.perm_append_comm.append_right hs)
      have S4 := Sim.putR S3 a1 hio e1
      have a3 : sameAt q y (σ.set i (some x)) := by cases q with | sl k => exact absurd rfl (nq k) | _ => trivial
      exact ⟨x, y, rfl, h3 _ _ (Sim.putR S4 a3 hio e2)⟩
    cases r with
    | sl k => exact h2.elim
    | dt d =>
      cases q with
      | sl k => exact h2.elim
      | dt d' => simp only [if_neg hij] at h2; obtain ⟨ρ3, e, h3⟩ := FinS.opt h2; exact fin e h3 (fun _ e => nomatch e) (fun _ e => nomatch e)
      | new d' => simp only [if_neg hij] at h2; obtain ⟨ρ3, e, h3⟩ := FinS.opt h2; exact fin e h3 (fun _ e => nomatch e) (fun _ e => nomatch e)
    | new d =>
      cases q with
      | sl k => exact h2.elim
      | dt d' => simp only [if_neg hij] at h2; obtain ⟨ρ3, e, h3⟩ := FinS.opt h2; exact fin e h3 (fun _ e => nomatch e) (fun _ e => nomatch e)
      | new d' => simp only [if_neg hij] at h2; obtain ⟨ρ3, e, h3⟩ := FinS.opt h2; exact fin e h3 (fun _ e => nomatch e) (fun _ e => nomatch e)
theorem ss_six {i : Nat} {x : Str} {px ps : Pos} {me : Fr → Out D} (hN : X.N[i]? = some x) (hv : Vis X.env.scope x) (hd : (x == ("__debug__" : Str)) = false) (hcd : (x == ("__classdict__" : Str)) = false) (ha : PE X a (TD tt X.K md)) (hb : PE X b (TD tt X.K me))
    (hasg : ∀ v, assign (.Subscript (.Name x px) b ps) X.env v = (do
      let ov ← holding [v] (eval (.Name x px) X.env)
      let iv ← holding [v, ov] (eval b X.env)
      standAt ps
      holding [v, ov, iv] (setItem ov iv v)
      release [v, ov, iv] [])) (hs : swapsWithSole [.Subscript (.Name x px) b ps] a p.line X.env = pure false) :
    PS X (.Assign [.Subscript (.Name x px) b ps] a p) (TSm tt X.K io fun ρ => (md ρ).toS fun d ρ => if isOwn ρ i then (me ρ).toS fun k ρ => optS (sixM i k d ρ) else .no) :=
  ps_imp (ps_asg ha (pg_sub (pe_var hN hv hd hcd) hb set_list hasg) hs) fun D σ H ⟨G, ρ, hs, S, hio, h⟩ => by
    refine TD.mono (TD.ask S (toS_split FinS.no h)) fun y H1 ⟨d, ρ1, S1, h1⟩ => ?_
    split at h1
    · rename_i ho
      obtain ⟨ds, e⟩ := isOwn_at ho
      obtain ⟨q, vs, e1, _⟩ := S1.ownAt e
      refine ⟨_, e1, ?_⟩
      refine TD.mono (TD.ask S1 (toS_split FinS.no h1)) fun z H2 ⟨k, ρ2, S2, h2⟩ => ?_
      obtain ⟨ρ3, e2, h3⟩ := FinS.opt h2
      unfold sixM at e2
      split at e2
      · rename_i ds2 n e3
        split at e2
        · rename_i j hj
          cases e2
          obtain ⟨q', ws, e4, e5, rl⟩ := S2.ownAt e3
          rw [e1] at e4; cases e4
          obtain rfl := (RelT.dt (held_rel S2)).int
          obtain ⟨v', ev, rd⟩ := S2.sp.val (.val d, some y) (List.mem_append_right _ (List.mem_cons_of_mem _ List.mem_cons_self)) d rfl
          cases ev
          exact ⟨_, ws, n, j, rfl, rfl, e5, by rw [← rl.length]; exact hj, h3 _ _ ((S2.write e3 e1 (rl.set rd j)).drop.drop)⟩
        · cases e2
      · cases e2
    · exact h1.elim
end
end Py
end
section
set_option Elab.async false
set_option linter.all false
set_option autoImplicit false
set_option maxRecDepth 100000
/-! Rules, 9: targets, walked sources, for, while, comprehensions. -/
namespace Py
open PySem PySem.Spec PyProof.Rows L2

/-! ### targets -/
theorem wipe_at (σ : L2.St) (j : Nat) : ∀ vs : List Nat, (wipe σ vs)[j]? = if j ∈ vs then (σ[j]?).map (fun _ => none) else σ[j]?
  | [] => by simp [wipe]
  | v :: vs => by
    have ih := wipe_at σ j vs
    have hl := wipe_length σ vs
    unfold wipe
    rw [List.getElem?_set, hl]
    by_cases e : v = j
    · subst e
      by_cases h : v < σ.length
      · simp [h]
      · simp [h]
    · have e' : ¬ j = v := fun z => e z.symm
      rw [if_neg e, ih]
      simp [e']
theorem wipe_put (σ : L2.St) {i : Nat} {vs : List Nat} (o : Option V) (h : i ∈ vs) : wipe (σ.set i o) vs = wipe σ vs := by
  apply List.ext_getElem?
  intro j
  rw [wipe_at, wipe_at]
  by_cases hj : j ∈ vs
  · rw [if_pos hj, if_pos hj, List.getElem?_set]
    by_cases e : i = j
    · subst e
      by_cases hl : i < σ.length
      · simp [hl]
      · simp [hl]
    · rw [if_neg e]
  · rw [if_neg hj, if_neg hj, List.getElem?_set_ne (fun (e : i = j) => hj (e ▸ h))]
theorem wipe_twice (σ : L2.St) (vs : List Nat) : wipe (wipe σ vs) vs = wipe σ vs := by
  apply List.ext_getElem?
  intro j
  rw [wipe_at, wipe_at]
  by_cases hj : j ∈ vs
  · rw [if_pos hj, if_pos hj, Option.map_map]
    rfl
  · rw [if_neg hj, if_neg hj]
/-- a value is stored in a slot that is not one of those handed in -/
theorem Sim.putAt {K : W.Frag} {tt : TTs} {G : Gh tt} {ρ : Fr} {hs : List Ent} {σ : L2.St} {H : Hp} {s : Sl} {o : Option V} {i : Nat} (S : Sim K G ρ ((s, o) :: hs) σ H) (hi : ∀ p ∈ G.io, p.1 ≠ i) : Sim K G (ρ.set i s) hs (σ.set i o) H := by
  have hio' : ∀ p ∈ G.io, (σ.set i o)[p.1]? = some (some p.2) := fun p hp => by rw [List.getElem?_set_ne (Ne.symm (hi p hp))]; exact S.io p hp
  by_cases hl : i < ρ.length
  · have hl2 : i < σ.length := S.len ▸ hl
    have u := unfocus (s' := s) (o' := o) (List.getElem?_eq_getElem hl) (List.getElem?_eq_getElem hl2) hs
    refine S.subperm (P := (ρ.zip σ).eraseIdx i ++ (s, o) :: hs) ((List.eraseIdx_sublist _ _).append (.refl _)) (List.perm_middle.trans u.symm) ?_ hio'
    simp only [List.length_set]; exact S.len
  · have e1 : ρ.set i s = ρ := List.set_eq_of_length_le (by omega)
    have e2 : σ.set i o = σ := List.set_eq_of_length_le (by have := S.len; omega)
    rw [e1, e2]
    exact S.drop
def PutOk (K : W.Frag) (is : List Nat) (g : TG) (put : D → Fr → Option Fr) : Prop :=
  ∀ {tt : TTs} (G : Gh tt) ρ ρ1 hs σ H d x Q, Sim K G ρ ((.val d, some x) :: hs) σ H → (∀ p ∈ G.io, p.1 ∉ is) → put d ρ = some ρ1 →
    (∀ σ', Sim K G ρ1 hs σ' H → (∀ vs : List Nat, (∀ i ∈ is, i ∈ vs) → wipe σ' vs = wipe σ vs) → Q σ' H) → g x σ H Q
theorem put_nm {K : W.Frag} {i : Nat} {x : Str} {p : Pos} : PutOk K (Tg.nm i x p).slots (gName i) (Tg.nm i x p).put := by
  intro tt G ρ ρ1 hs σ H d v Q S hio e h
  have e : some (ρ.set i (.val d)) = some ρ1 := e
  cases e
  exact h _ (S.putAt fun q hq z => hio q hq (z ▸ List.mem_singleton.mpr rfl)) fun vs hv => wipe_put σ _ (hv i (List.mem_singleton.mpr rfl))
def gNames : List Nat → TGs
  | [] => gNil
  | i :: is => gCons (gName i) (gNames is)
theorem put_names {K : W.Frag} {tt : TTs} : ∀ (ts : List (Nat × Str × Pos)) (ds : List D) (xs : List V) (es : List Ent) (G : Gh tt) (ρ ρ1 : Fr) (hs : List Ent) (σ : L2.St) (H : Hp) (Q : L2.St → Hp → Prop), EntsD ds xs es → Sim K G ρ (es ++ hs) σ H → (∀ p ∈ G.io, p.1 ∉ ts.map (·.1)) → setRow ts ds ρ = some ρ1 →
    (∀ σ', Sim K G ρ1 hs σ' H → (∀ vs : List Nat, (∀ i ∈ ts.map (·.1), i ∈ vs) → wipe σ' vs = wipe σ vs) → Q σ' H) → gNames (ts.map (·.1)) xs σ H Q ∧ xs.length = ts.length
  | [], [], _, _, G, ρ, ρ1, hs, σ, H, Q, .nil, S, _, e, h => by
    cases e
    exact ⟨⟨rfl, h σ S fun _ _ => rfl⟩, rfl⟩
  | [], d :: ds, _, _, _, _, _, _, _, _, _, _, _, _, e, _ => by cases e
  | t :: ts, [], _, _, _, _, _, _, _, _, _, _, _, _, e, _ => by cases e
  | t :: ts, d :: ds, _, _, G, ρ, ρ1, hs, σ, H, Q, .cons (x := x) (xs := xs) E, S, hio, e, h => by
    have S1 := S.putAt (i := t.1) fun q hq z => hio q hq (z ▸ List.mem_cons_self)
    have q := put_names ts ds xs _ G _ ρ1 hs _ H Q E S1 (fun q hq z => hio q hq (List.mem_cons_of_mem _ z)) e fun σ' S' hw => h σ' S' fun vs hv => by
      rw [hw vs fun i hi => hv i (List.mem_cons_of_mem _ hi), wipe_put σ _ (hv t.1 List.mem_cons_self)]
    exact ⟨⟨x, xs, rfl, q.1⟩, by rw [List.length_cons, List.length_cons, q.2]⟩
theorem put_row {K : W.Frag} {ts : List (Nat × Str × Pos)} {k : Nat} {p : Pos} : PutOk K (Tg.row ts k p).slots (gTup K ts.length (gNames (ts.map (·.1)))) (Tg.row ts k p).put := by
  intro tt G ρ ρ1 hs σ H d v Q S hio e h
  cases d with
  | tuple ds =>
    obtain ⟨a, vs, rfl, h2, rl⟩ := (RelT.dt (held_rel S)).tuple
    obtain ⟨es, E, S1, _⟩ := S.pushL rl
    have S2 : Sim K G ρ (es ++ hs) σ H := S1.held (h1 := es ++ hs) ((List.Sublist.refl _).append (List.sublist_cons_self _ _)) (.refl _)
    have q := put_names ts ds vs es G ρ ρ1 hs σ H Q E S2 hio e h
    exact ⟨a, vs, rfl, h2, q.2, q.1⟩
  | _ => cases e
section
variable {tt : TTs} {X : Cx} {p : Pos}
theorem sg_nm {i : Nat} {x : Str} (hN : X.N.Nodup) (hi : X.N[i]? = some x) (hx : Loc X.env.scope x) (hf : X.fn x = true ∨ X.env.scope.names.lookup x = some .local) : PG X (Tg.nm i x p).toX (gName i) := pg_name hN hi hx hf
theorem sg_names (hN : X.N.Nodup) : ∀ (ts : List (Nat × Str × Pos)), (∀ t ∈ ts, X.N[t.1]? = some t.2.1 ∧ Loc X.env.scope t.2.1 ∧ (X.fn t.2.1 = true ∨ X.env.scope.names.lookup t.2.1 = some .local)) → PGs X (ts.map fun t => .Name t.2.1 t.2.2) (gNames (ts.map (·.1)))
  | [], _ => pgs_nil
  | t :: ts, h => pgs_cons (pg_name hN (h t List.mem_cons_self).1 (h t List.mem_cons_self).2.1 (h t List.mem_cons_self).2.2) (sg_names hN ts fun t ht => h t (List.mem_cons_of_mem _ ht)) rfl
theorem each_len (env : Env) : ∀ (ts : List (Nat × Str × Pos)), (assignEach (ts.map fun t => Expr.Name t.2.1 t.2.2) env).length = ts.length ∧ (assignEach (ts.map fun t => Expr.Name t.2.1 t.2.2) env).findIdx? (·.1) = none
  | [] => ⟨rfl, rfl⟩
  | t :: ts => by
    obtain ⟨h1, h2⟩ := each_len env ts
    have e : assignEach ((t :: ts).map fun t => Expr.Name t.2.1 t.2.2) env = (false, assign (.Name t.2.1 t.2.2) env) :: assignEach (ts.map fun t => Expr.Name t.2.1 t.2.2) env := rfl
    rw [e]
    exact ⟨by rw [List.length_cons, h1, List.length_cons], by rw [List.findIdx?_cons, h2]; rfl⟩
theorem sg_row (hc : X.calm = true) (hN : X.N.Nodup) {ts : List (Nat × Str × Pos)} {k : Nat} (h : ∀ t ∈ ts, X.N[t.1]? = some t.2.1 ∧ Loc X.env.scope t.2.1 ∧ (X.fn t.2.1 = true ∨ X.env.scope.names.lookup t.2.1 = some .local)) : PG X (Tg.row ts k p).toX (gTup X.K ts.length (gNames (ts.map (·.1)))) :=
  pg_tup hc (sg_names hN ts h) (each_len X.env ts).1 (each_len X.env ts).2
theorem ss_unp {a : Expr} {md : Fr → Out D} {io : List Nat} {ts : List (Nat × Str × Pos)} {k : Nat} {pt : Pos} (ha : PE X a (TD tt X.K md)) (hg : PG X (Tg.row ts k pt).toX (gTup X.K ts.length (gNames (ts.map (·.1))))) (hs : swapsWithSole [(Tg.row ts k pt).toX] a p.line X.env = pure false) (hw : swappedStores [(Tg.row ts k pt).toX] a X.env = pure none) :
    PS X (.Assign [(Tg.row ts k pt).toX] a p) (TSm tt X.K io fun ρ => (md ρ).toS fun d ρ => if ts.any (fun t => io.contains t.1) then .no else match d with
    | .tuple ds => optS (setRow ts ds ρ)
    | _ => .no) :=
  ps_imp (ps_asg ha hg hs hw rfl) fun D σ H ⟨G, ρ, hs, S, hio, h⟩ => by
    refine TD.mono (TD.ask S (toS_split FinS.no h)) fun x H1 ⟨d, ρ1, S1, h1⟩ => ?_
    split at h1
    · exact h1.elim
    · rename_i hn
      cases d with
      | tuple ds =>
        obtain ⟨ρ2, e, h2⟩ := FinS.opt h1
        refine put_row (k := k) (p := pt) G ρ1 ρ2 hs σ H1 (.tuple ds) x D.nx S1 (fun q hq z => ?_) e fun σ' S' _ => h2 σ' H1 S'
        obtain ⟨t, ht, e⟩ := List.mem_map.mp z
        apply hn
        rw [List.any_eq_true]
        exact ⟨t, ht, by rw [e]; exact hio q hq⟩
      | _ => exact h1.elim
end

/-! ### walked sources -/
structure Feeds (K : W.Frag) (J : It) (ds : List D) (es : List Ent) : Prop where
  go : ∀ {tt : TTs} (G : Gh tt) (ρ : Fr) (hs : List Ent) (σ : L2.St) (H : Hp) (i : Nat) (d : D), Sim K G ρ hs σ H → (∀ p ∈ es, p ∈ hs) → ds[i]? = some d → J.go i H ∧ ∀ x H', J.yld i H x H' → Sim K G ρ ((.val d, some x) :: hs) σ H'
  stop : ∀ {tt : TTs} (G : Gh tt) (ρ : Fr) (hs : List Ent) (σ : L2.St) (H : Hp) (i : Nat), Sim K G ρ hs σ H → (∀ p ∈ es, p ∈ hs) → ds.length ≤ i → J.stop i H
def FinI {tt : TTs} (K : W.Frag) (G : Gh tt) (hs : List Ent) (σ : L2.St) (R : It → Hp → Prop) : Out (List D) → Prop
  | .ok ds ρ => ∀ J es H, Feeds K J ds es → Sim K G ρ (es ++ hs) σ H → R J H
  | .ex C d => FinX K G C d
  | .no => False
theorem FinI.no {tt : TTs} {K : W.Frag} {G : Gh tt} {hs : List Ent} {σ : L2.St} {R : It → Hp → Prop} : EndsX (FinI K G hs σ R) (FinX K G) := ⟨fun h => h, fun _ _ h => h⟩
def TIm (tt : TTs) (K : W.Frag) (m : Fr → Out (List D)) : TI := fun σ H R => ∃ (G : Gh tt) (ρ : Fr) (hs : List Ent), Sim K G ρ hs σ H ∧ FinI K G hs σ R (m ρ)
section
variable {K : W.Frag} {tt : TTs} {G : Gh tt} {ρ : Fr} {hs : List Ent} {σ : L2.St} {H : Hp}
theorem mem_val {es : List Ent} {d : D} {v : V} (S : Sim K G ρ hs σ H) (hm : ∀ p ∈ es, p ∈ hs) (h : (Sl.val d, some v) ∈ es) : RelD K (NS G ρ hs σ) H d v := by
  obtain ⟨w, e, r⟩ := S.sp.val _ (List.mem_append_right _ (hm _ h)) d rfl
  cases e
  exact r
theorem feeds_list {ds : List D} {a : Addr} : Feeds K (Itl K a) ds [(.val (.list ds), some (.ref a))] where
  go := fun G ρ hs σ H i d S hm hd => by
    obtain ⟨b, vs, e, h2, rl⟩ := (RelT.dt (mem_val S hm List.mem_cons_self)).list
    cases e
    obtain ⟨v, hv, rd⟩ := rl.get hd
    refine ⟨⟨vs, v, h2.seq, hv⟩, fun x H' ⟨e, hx⟩ => ?_⟩
    subst e
    have := hx vs (h2.seq)
    rw [hv] at this
    cases this
    exact S.push_dt rd
  stop := fun G ρ hs σ H i S hm hl => by
    obtain ⟨b, vs, e, h2, rl⟩ := (RelT.dt (mem_val S hm List.mem_cons_self)).list
    cases e
    exact ⟨vs, h2.seq, by rw [← rl.length]; exact hl⟩
theorem feeds_tup {ds : List D} {a : Addr} : Feeds K (Itt K a) ds [(.val (.tuple ds), some (.ref a))] where
  go := fun G ρ hs σ H i d S hm hd => by
    obtain ⟨b, vs, e, h2, rl⟩ := (RelT.dt (mem_val S hm List.mem_cons_self)).tuple
    cases e
    obtain ⟨v, hv, rd⟩ := rl.get hd
    refine ⟨⟨vs, v, h2, hv⟩, fun x H' ⟨e, hx⟩ => ?_⟩
    subst e
    have := hx vs h2
    rw [hv] at this
    cases this
    exact S.push_dt rd
  stop := fun G ρ hs σ H i S hm hl => by
    obtain ⟨b, vs, e, h2, rl⟩ := (RelT.dt (mem_val S hm List.mem_cons_self)).tuple
    cases e
    exact ⟨vs, h2, by rw [← rl.length]; exact hl⟩
theorem feeds_rng {n : Nat} : Feeds K (Itr 0 n) ((List.range n).map fun (i : Nat) => PyData.int (i : Int)) [] where
  go := fun G ρ hs σ H i d S hm hd => by
    rw [List.getElem?_map] at hd
    obtain ⟨j, hj, e⟩ := Option.map_eq_some_iff.mp hd
    obtain ⟨hi, e2⟩ := List.getElem?_eq_some_iff.mp hj
    rw [List.getElem_range] at e2
    subst e2
    have hi' : i < n := by simpa using hi
    refine ⟨hi', fun x H' ⟨e1, e3⟩ => ?_⟩
    subst e1 e3 e
    have q : (0 : Int) + (i : Int) = (i : Int) := Int.zero_add _
    rw [q]
    exact S.push_dt (.int _)
  stop := fun G ρ hs σ H i S hm hl => by
    have hl : n ≤ i := by simpa using hl
    exact hl
theorem zip_get {xs ys : List D} {i : Nat} {d : D} (h : ((xs.zip ys).map fun p => PyData.tuple [p.1, p.2])[i]? = some d) : ∃ x y, xs[i]? = some x ∧ ys[i]? = some y ∧ d = .tuple [x, y] := by
  rw [List.getElem?_map] at h
  obtain ⟨⟨x, y⟩, h1, h2⟩ := Option.map_eq_some_iff.mp h
  obtain ⟨h3, h4⟩ := List.getElem?_zip_eq_some.mp h1
  exact ⟨x, y, h3, h4, h2.symm⟩
theorem feeds_zipL {xs ys : List D} {a b : Addr} : Feeds K (Itz K a b) ((xs.zip ys).map fun p => PyData.tuple [p.1, p.2]) [(.val (.list ys), some (.ref b)), (.val (.list xs), some (.ref a))] where
  go := fun G ρ hs σ H i d S hm hd => by
    obtain ⟨_, vs, e, h2, rl⟩ := (RelT.dt (mem_val (d := .list xs) (v := .ref a) S hm (List.mem_cons_of_mem _ List.mem_cons_self))).list
    cases e
    obtain ⟨_, ws, e, h3, rl3⟩ := (RelT.dt (mem_val (d := .list ys) (v := .ref b) S hm List.mem_cons_self)).list
    cases e
    obtain ⟨x, y, hx, hy, rfl⟩ := zip_get hd
    obtain ⟨v, hv, rd⟩ := rl.get hx
    obtain ⟨w, hw, rd3⟩ := rl3.get hy
    refine ⟨⟨vs, ws, v, w, h2.seq, h3.seq, hv, hw⟩, fun z H' ⟨t, v', w', e1, e2, e3, q1, q2⟩ => ?_⟩
    subst e1 e3
    have q1 := q1 vs (h2.seq); rw [hv] at q1; cases q1
    have q2 := q2 ws (h3.seq); rw [hw] at q2; cases q2
    exact S.push_tup e2 (.cons rd (.cons rd3 .nil))
  stop := fun G ρ hs σ H i S hm hl => by
    obtain ⟨_, vs, e, h2, rl⟩ := (RelT.dt (mem_val (d := .list xs) (v := .ref a) S hm (List.mem_cons_of_mem _ List.mem_cons_self))).list
    cases e
    obtain ⟨_, ws, e, h3, rl3⟩ := (RelT.dt (mem_val (d := .list ys) (v := .ref b) S hm List.mem_cons_self)).list
    cases e
    refine ⟨vs, ws, h2.seq, h3.seq, ?_⟩
    rw [List.length_map, List.length_zip] at hl
    have l1 := rl.length
    have l2 := rl3.length
    omega
theorem feeds_zipT {xs ys : List D} {a b : Addr} : Feeds K (RZ.ItzT K a b) ((xs.zip ys).map fun p => PyData.tuple [p.1, p.2]) [(.val (.tuple ys), some (.ref b)), (.val (.tuple xs), some (.ref a))] where
  go := fun G ρ hs σ H i d S hm hd => by
    obtain ⟨_, vs, e, h2, rl⟩ := (RelT.dt (mem_val (d := .tuple xs) (v := .ref a) S hm (List.mem_cons_of_mem _ List.mem_cons_self))).tuple
    cases e
    obtain ⟨_, ws, e, h3, rl3⟩ := (RelT.dt (mem_val (d := .tuple ys) (v := .ref b) S hm List.mem_cons_self)).tuple
    cases e
    obtain ⟨x, y, hx, hy, rfl⟩ := zip_get hd
    obtain ⟨v, hv, rd⟩ := rl.get hx
    obtain ⟨w, hw, rd3⟩ := rl3.get hy
    refine ⟨⟨vs, ws, v, w, h2, h3, hv, hw⟩, fun z H' ⟨t, v', w', e1, e2, e3, q1, q2⟩ => ?_⟩
    subst e1 e3
    have q1 := q1 vs h2; rw [hv] at q1; cases q1
    have q2 := q2 ws h3; rw [hw] at q2; cases q2
    exact S.push_tup e2 (.cons rd (.cons rd3 .nil))
  stop := fun G ρ hs σ H i S hm hl => by
    obtain ⟨_, vs, e, h2, rl⟩ := (RelT.dt (mem_val (d := .tuple xs) (v := .ref a) S hm (List.mem_cons_of_mem _ List.mem_cons_self))).tuple
    cases e
    obtain ⟨_, ws, e, h3, rl3⟩ := (RelT.dt (mem_val (d := .tuple ys) (v := .ref b) S hm List.mem_cons_self)).tuple
    cases e
    refine ⟨vs, ws, h2, h3, ?_⟩
    rw [List.length_map, List.length_zip] at hl
    have l1 := rl.length
    have l2 := rl3.length
    omega
end
section
variable {tt : TTs} {X : Cx} {tg a b : Expr} {ma mb : Fr → Out R} {p px : Pos}
theorem si_e (ha : PE X a (T tt X.K ma)) : PI X tg a (TIm tt X.K fun ρ => (escM (ma ρ)).bind fun d ρ => ask (itemsD d) ρ) := by
  refine ⟨fun pins s σ H R I ⟨G, ρ, hs, S, h⟩ => ?_⟩
  cases e : escM (ma ρ) with
  | no => simp only [e] at h; exact h.elim
  | ex C d =>
    simp only [e, Out.bind_ex] at h
    refine (pi_list (sd_esc ha)).run pins s σ H R I ⟨G, ρ, hs, S, ?_⟩
    simp only [e]
    exact h
  | ok d ρ1 =>
    simp only [e, Out.bind_ok] at h
    cases d with
    | list ds =>
      refine (pi_list (sd_esc ha)).run pins s σ H R I ⟨G, ρ, hs, S, ?_⟩
      simp only [e]
      intro x H1 S1
      obtain ⟨c, vs, rfl, h2, rl⟩ := (RelT.dt (held_rel S1)).list
      exact ⟨c, rfl, ⟨vs, h2.seq⟩, h _ _ _ feeds_list S1⟩
    | tuple ds =>
      refine (pi_tup (sd_esc ha)).run pins s σ H R I ⟨G, ρ, hs, S, ?_⟩
      simp only [e]
      intro x H1 S1
      obtain ⟨c, vs, rfl, h2, rl⟩ := (RelT.dt (held_rel S1)).tuple
      exact ⟨c, rfl, ⟨vs, h2⟩, h _ _ _ feeds_tup S1⟩
    | _ => exact h.elim
theorem si_rng (hg : Gl X "range") (hm : X.mg "range" = none) (ha : PE X a (T tt X.K ma)) (hs : starEach [a] X.env = (false, eval a X.env) :: starEach [] X.env) :
    PI X tg (.Call (.Name "range" px) [a] [] p) (TIm tt X.K fun ρ => (lookM (ma ρ)).bind fun d ρ => match d with
    | .int j => if -(2 ^ 62) ≤ j ∧ j < 2 ^ 62 then .ok ((List.range j.toNat).map fun (i : Nat) => .int i) ρ else .no
    | _ => .no) :=
  pi_imp (pi_range1 hg hm (pa_cons ha pa_nil hs) hs) fun σ H R ⟨G, ρ, hs, S, h⟩ => by
    have h' := bind_split (FinI.no (R := R) (hs := hs) (σ := σ)) h
    unfold lookM at h'
    refine T.mono (T.ask (P := fun r ρ1 => ∃ j : Int, r.look ρ1 = some (.int j) ∧ FinI X.K G hs σ R (if -(2 ^ 62) ≤ j ∧ j < 2 ^ 62 then .ok ((List.range j.toNat).map fun (i : Nat) => .int i) ρ1 else .no)) S ?_) fun x H1 ⟨r, ρ1, S1, a1, j, hl, h1⟩ => ?_
    · cases e : ma ρ with
      | no => rw [e] at h'; exact h'
      | ex C d => rw [e] at h'; exact h'
      | ok r ρ1 =>
        rw [e] at h'
        simp only [Out.bind_ok] at h'
        cases e2 : r.look ρ1 with
        | none => rw [e2] at h'; exact False.elim h'
        | some d =>
          rw [e2] at h'
          cases d with
          | int j => exact ⟨j, e2, h'⟩
          | _ => exact h'.elim
    · have rt := (S1.look (r := r) (fun p hp => List.mem_append_left _ hp) a1 hl).int
      subst rt
      split at h1
      · rename_i hb
        refine ⟨j, rfl, hb.1, hb.2, h1 _ [] H1 feeds_rng S1.drops⟩
      · exact h1.elim
theorem si_zip {elts : List Expr} {kk : Nat} {tpos : Pos} (hg : Gl X "zip") (hm : X.mg "zip" = none) (ha : PE X a (T tt X.K ma)) (hb : PE X b (T tt X.K mb)) (hs : starEach [a, b] X.env = (false, eval a X.env) :: starEach [b] X.env) (hs2 : starEach [b] X.env = (false, eval b X.env) :: starEach [] X.env) :
    PI X (.Tuple elts kk tpos) (.Call (.Name "zip" px) [a, b] [] p) (TIm tt X.K fun ρ => (escM (ma ρ)).bind fun x ρ => (escM (mb ρ)).bind fun y ρ => match x, y with
    | .tuple xs, .tuple ys => .ok ((xs.zip ys).map fun p => .tuple [p.1, p.2]) ρ
    | .list xs, .list ys => .ok ((xs.zip ys).map fun p => .tuple [p.1, p.2]) ρ
    | _, _ => .no) :=
  pi_imp (RZ.pi_zipA hg hm (pa_cons (sd_esc ha) (pa_cons (sd_esc hb) pa_nil hs2) hs) hs (plain_args hs2)) fun σ H R ⟨G, ρ, hs, S, h⟩ => by
    refine TD.mono (TD.ask S (bind_split (FinI.no (R := R) (hs := hs) (σ := σ)) h)) fun x H1 ⟨d, ρ1, S1, h1⟩ => ?_
    refine TD.mono (TD.ask S1 (bind_split (FinI.no (R := R) (hs := hs) (σ := σ)) h1)) fun y H2 ⟨e, ρ2, S2, h2⟩ => ?_
    have r2 := held_rel S2
    have r1 := mem_val (es := [(.val d, some x)]) S2 (fun p hp => List.mem_cons_of_mem _ (List.mem_cons.mpr ((List.mem_cons.mp hp).imp id fun z => absurd z (List.not_mem_nil)))) List.mem_cons_self
    cases d with
    | list ds =>
      cases e with
      | list es =>
        obtain ⟨c, vs, rfl, q1, rl⟩ := (RelT.dt r1).list
        obtain ⟨c', vs', rfl, q1', rl'⟩ := (RelT.dt r2).list
        exact ⟨c, c', vs, vs', rfl, .inl ⟨q1.seq, q1'.seq, h2 _ _ _ feeds_zipL S2⟩⟩
      | _ => exact h2.elim
    | tuple ds =>
      cases e with
      | tuple es =>
        obtain ⟨c, vs, rfl, q1, rl⟩ := (RelT.dt r1).tuple
        obtain ⟨c', vs', rfl, q1', rl'⟩ := (RelT.dt r2).tuple
        exact ⟨c, c', vs, vs', rfl, .inr ⟨q1, q1', h2 _ _ _ feeds_zipT S2⟩⟩
      | _ => exact h2.elim
    | _ => cases e <;> exact h2.elim
end

/-! ### loops -/
section
variable {tt : TTs} {X : Cx} {tg it : Expr} {body : List Stmt} {p : Pos} {io is : List Nat} {ms : Fr → Out (List D)} {g : TG} {put : D → Fr → Option Fr} {mb : Fr → SO}
theorem ss_for (hp : PassesOwn (model X.prog X.w) X.A X.env X.xe) (hc : X.calm = true) (hi : PI X tg it (TIm tt X.K ms)) (hg : PG X tg g) (hpt : PutOk X.K is g put) (hb : PSs X body (TSm tt X.K io mb))
    (hs : ∀ x, foldedSetIterable it X.env x = pure x) :
    PS X (.For tg it body [] p) (TSm tt X.K io fun ρ => if is.any io.contains then .no else (ms ρ).toS fun ds ρ => forLoop put mb ds ρ) :=
  ps_imp (ps_for hp hc hi hg hb hs) fun D σ H ⟨G, ρ, hs, S, hio, h⟩ => by
    split at h
    · exact h.elim
    rename_i hn
    have hio2 : ∀ q ∈ G.io, q.1 ∉ is := fun q hq z => hn (List.any_eq_true.mpr ⟨q.1, z, hio q hq⟩)
    refine ⟨G, ρ, hs, S, ?_⟩
    have h' := toS_split (FinS.no (D := D) (hs := hs)) h
    cases e : ms ρ with
    | no => rw [e] at h'; exact h'
    | ex C d => rw [e] at h'; exact h'
    | ok ds ρ1 =>
    rw [e] at h'
    intro J es H1 F S1
    refine ⟨fun i m σ H => m = ds.length - i ∧ i ≤ ds.length ∧ ∃ ρ', Sim X.K G ρ' (es ++ hs) σ H ∧ FinS X.K G hs D (forLoop put mb (ds.drop i) ρ'), ⟨_, rfl, Nat.zero_le _, ρ1, S1, h'⟩, ?_⟩
    rintro i m σ2 H2 ⟨rfl, hle, ρ2, S2, h2⟩
    have hmem : ∀ q ∈ es, q ∈ es ++ hs := fun q hq => List.mem_append_left _ hq
    by_cases hlt : i < ds.length
    · obtain ⟨hgo, hyl⟩ := F.go G ρ2 _ σ2 H2 i ds[i] S2 hmem (List.getElem?_eq_getElem hlt)
      refine .inr ⟨hgo, fun σ H => ∃ ρ', Sim X.K G ρ' (es ++ hs) σ H ∧ FinS X.K G hs D (forLoop put mb (ds.drop (i + 1)) ρ'), fun σ' H' ⟨ρ', q⟩ => ⟨ds.length - (i + 1), by omega, rfl, hlt, ρ', q⟩, fun x H3 hy => ?_⟩
      have S3 := hyl x H3 hy
      rw [List.drop_eq_getElem_cons hlt] at h2
      unfold forLoop at h2
      cases ep : put ds[i] ρ2 with
      | none => rw [ep] at h2; exact h2.elim
      | some ρ3 =>
        rw [ep] at h2
        dsimp only at h2
        refine hpt G ρ2 ρ3 (es ++ hs) σ2 H3 ds[i] x _ S3 hio2 ep fun σ4 S4 _ => ⟨G, ρ3, es ++ hs, S4, hio, ?_⟩
        cases eb : mb ρ3 with
        | nx ρ5 => rw [eb] at h2; exact fun σ H S5 => ⟨ρ5, S5, h2⟩
        | ct ρ5 => rw [eb] at h2; exact fun σ H S5 => ⟨ρ5, S5, h2⟩
        | bk ρ5 => rw [eb] at h2; exact fun σ H S5 => h2 σ H S5.drops
        | rt r ρ5 => rw [eb] at h2; exact fun x σ H S5 al => h2 x σ H (S5.held (h1 := ents r x ++ hs) ((List.Sublist.refl _).append (List.sublist_append_right _ _)) (.refl _)) al
        | ex C d => rw [eb] at h2; exact h2
        | no => rw [eb] at h2; exact h2.elim
    · have e3 : ds.drop i = [] := List.drop_eq_nil_of_le (by omega)
      rw [e3] at h2
      exact .inl ⟨F.stop G ρ2 _ σ2 H2 i S2 hmem (by omega), h2 σ2 H2 S2.drops⟩
theorem ss_wh {c : Expr} {tm : Fr → Out Bool} (hp : PassesOwn (model X.prog X.w) X.A X.env X.xe) (hc : PT X c (TB tt X.K tm)) (hb : PSs X body (TSm tt X.K io mb)) : PS X (.While c body [] p) (TSm tt X.K io fun ρ => whLoop tm mb turns ρ) :=
  ps_imp (ps_while hp hc hb) fun D σ H ⟨G, ρ, hs, S, hio, h⟩ => by
    refine ⟨fun m σ H => ∃ ρ', Sim X.K G ρ' hs σ H ∧ FinS X.K G hs D (whLoop tm mb m ρ'), ⟨turns, ρ, S, h⟩, ?_⟩
    rintro m σ2 H2 ⟨ρ2, S2, h2⟩
    cases m with
    | zero => exact h2.elim
    | succ n =>
      unfold whLoop at h2
      refine TB.mono (TB.ask (P := fun b ρ1 => FinS X.K G hs D (match b with
        | false => SO.nx ρ1
        | true => match mb ρ1 with
          | .nx ρ2 => whLoop tm mb n ρ2
          | .ct ρ2 => whLoop tm mb n ρ2
          | .bk ρ2 => .nx ρ2
          | o => o)) S2 ?_) fun b H3 ⟨ρ3, S3, h3⟩ => ?_
      · cases e : tm ρ2 with
        | no => rw [e] at h2; exact h2
        | ex C d => rw [e] at h2; exact h2
        | ok b ρ1 =>
          rw [e] at h2
          cases b with
          | true => exact h2
          | false => exact h2
      · cases b with
        | false => exact h3 σ2 H3 S3
        | true =>
          rw [if_pos rfl]
          refine ⟨fun σ H => ∃ ρ', Sim X.K G ρ' hs σ H ∧ FinS X.K G hs D (whLoop tm mb n ρ'), fun σ' H' q => ⟨n, Nat.lt_succ_self _, q⟩, G, ρ3, hs, S3, hio, ?_⟩
          dsimp only at h3
          cases eb : mb ρ3 with
          | nx ρ5 => rw [eb] at h3; exact fun σ H S5 => ⟨ρ5, S5, h3⟩
          | ct ρ5 => rw [eb] at h3; exact fun σ H S5 => ⟨ρ5, S5, h3⟩
          | bk ρ5 => rw [eb] at h3; exact fun σ H S5 => h3 σ H S5
          | rt r ρ5 => rw [eb] at h3; exact h3
          | ex C d => rw [eb] at h3; exact h3
          | no => rw [eb] at h3; exact h3.elim
end
end Py
end
section
set_option Elab.async false
set_option linter.all false
set_option autoImplicit false
set_option maxRecDepth 100000
/-! Rules, 10: comprehensions. -/
namespace Py
open PySem PySem.Spec PyProof.Rows L2

section
variable {K : W.Frag} {tt : TTs} {G : Gh tt} {ρ ρ' : Fr} {hs : List Ent} {σ τ : L2.St} {H : Hp}
theorem Sim.noio (S : Sim K G ρ hs σ H) : Sim (tt := tt) K { G with io := [] } ρ hs σ H := ⟨S.len, S.sp, S.frm, S.trk, S.ow, S.br, S.tabs, fun _ h => absurd h List.not_mem_nil⟩
theorem Sim.reio (S : Sim (tt := tt) K { G with io := [] } ρ hs σ H) (h : ∀ p ∈ G.io, σ[p.1]? = some (some p.2)) : Sim K G ρ hs σ H := ⟨S.len, S.sp, S.frm, S.trk, S.ow, S.br, S.tabs, h⟩
theorem Sim.push_no (S : Sim K G ρ hs σ H) (o : Option V) : Sim K G ρ ((.no, o) :: hs) σ H :=
  ⟨S.len, (S.sp.push_no o).perm (zip_held ..), S.frm, S.trk, fun a ⟨p, hp, w⟩ => by
    rcases List.mem_cons.mp ((zip_held ..).mem_iff.mpr hp) with rfl | hp
    · obtain ⟨⟨_, e⟩, _⟩ := w; cases e
    · exact S.ow a ⟨p, hp, w⟩, S.br, S.tabs, S.io⟩
def saved (ρ : Fr) (σ : L2.St) (vs : List Nat) : List Ent := vs.map fun i => (ρ.getD i .no, σ.getD i none)
theorem Sim.wipes (S : Sim (tt := tt) K { G with io := [] } ρ hs σ H) : ∀ vs : List Nat, Sim (tt := tt) K { G with io := [] } (wipeF ρ vs) hs (wipe σ vs) H
  | [] => S
  | v :: vs => ((S.wipes vs).push_no none).putAt fun _ h => absurd h List.not_mem_nil
theorem Sim.saves (S : Sim (tt := tt) K { G with io := [] } ρ hs σ H) : ∀ vs : List Nat, plainSlots vs ρ = true → Sim (tt := tt) K { G with io := [] } ρ (saved ρ σ vs ++ hs) σ H
  | [], _ => S
  | v :: vs, h => by
    unfold plainSlots at h
    rw [List.all_cons, Bool.and_eq_true] at h
    have S1 := S.saves vs h.2
    have h1 := h.1
    show Sim K _ ρ ((ρ.getD v .no, σ.getD v none) :: (saved ρ σ vs ++ hs)) σ H
    cases e : ρ[v]? with
    | none => rw [e] at h1; cases h1
    | some s =>
      obtain ⟨o, e2⟩ := S1.slot e
      have d1 : ρ.getD v .no = s := by rw [List.getD_eq_getElem?_getD, e]; rfl
      have d2 : σ.getD v none = o := by rw [List.getD_eq_getElem?_getD, e2]; rfl
      rw [d1, d2]
      rw [e] at h1
      cases s with
      | no => exact S1.push_no o
      | val d =>
        obtain ⟨w, e3, rd⟩ := S1.valAt e
        rw [e2] at e3; cases e3
        exact S1.push_dt rd
      | own ds => cases h1
def unS (σ τ : L2.St) : List Nat → L2.St
  | [] => τ
  | v :: vs => (unS σ τ vs).set v (σ.getD v none)
theorem unS_at (σ τ : L2.St) (hl : σ.length = τ.length) (j : Nat) : ∀ vs : List Nat, (unS σ τ vs).length = τ.length ∧ (unS σ τ vs)[j]? = if j ∈ vs then σ[j]? else τ[j]?
  | [] => by simp [unS]
  | v :: vs => by
    obtain ⟨l, ih⟩ := unS_at σ τ hl j vs
    unfold unS
    refine ⟨by rw [List.length_set, l], ?_⟩
    rw [List.getElem?_set, l]
    by_cases e : v = j
    · subst e
      by_cases h : v < τ.length
      · have h' : v < σ.length := by omega
        simp [h, List.getD_eq_getElem?_getD, h']
      · have h' : ¬ v < σ.length := by omega
        simp [h, List.getElem?_eq_none (Nat.le_of_not_lt h')]
    · have e' : ¬ j = v := fun z => e z.symm
      rw [if_neg e, ih]
      simp [e']
theorem unS_wipe (σ : L2.St) (vs : List Nat) : unS σ (wipe σ vs) vs = σ := by
  apply List.ext_getElem?
  intro j
  rw [(unS_at σ (wipe σ vs) (wipe_length σ vs).symm j vs).2, wipe_at]
  by_cases h : j ∈ vs
  · rw [if_pos h]
  · rw [if_neg h, if_neg h]
theorem Sim.unsave {vs : List Nat} (S : Sim (tt := tt) K { G with io := [] } ρ' (saved ρ σ vs ++ hs) τ H) : Sim (tt := tt) K { G with io := [] } (unwipe ρ ρ' vs) hs (unS σ τ vs) H := by
  induction vs generalizing hs with
  | nil => exact S
  | cons v vs ih =>
    have S1 : Sim (tt := tt) K { G with io := [] } ρ' (saved ρ σ vs ++ ((ρ.getD v .no, σ.getD v none) :: hs)) τ H := S.held (.refl _) (List.perm_middle).symm
    exact (ih S1).putAt fun _ h => absurd h List.not_mem_nil
/-- a held list of its own is written -/
theorem Sim.writeH {ds es : List D} {a : Addr} {ws : List V} (S : Sim K G ρ ((.own ds, some (.ref a)) :: hs) σ H) (r : RelL K (NS G ρ ((.own ds, some (.ref a)) :: hs) σ) H es ws) : Sim K G ρ ((.own es, some (.ref a)) :: hs) σ (upd H a (.lst ws)) := by
  have f := (zip_held ρ σ (.own ds, some (.ref a)) hs)
  have q := S.sp.perm f.symm
  obtain ⟨_, vs0, e0, e1, _⟩ := S.sp.own (.own ds, some (.ref a)) (List.mem_append_right _ List.mem_cons_self) ds rfl
  cases e0
  have own : G.A a ∨ ¬ Old G.H0 a := S.ow a ⟨_, f.mem_iff.mp List.mem_cons_self, ⟨_, rfl⟩, rfl⟩
  refine ⟨S.len, (q.write (r.sub (NN.perm f))).perm (zip_held ..), fun b u e t n => ?_, fun b e => old_write (S.trk b e), fun b ⟨p, hp, o⟩ => ?_, S.br, tabs_write S.tabs e1, S.io⟩
  · have nb : b ≠ a := fun z => by
      subst z
      rcases own with o | o
      · exact n o
      · exact o ⟨u, e, t⟩
    rw [upd_ne nb]; exact S.frm b u e t n
  · rcases List.mem_cons.mp ((zip_held ..).mem_iff.mpr hp) with rfl | hp
    · obtain ⟨_, e⟩ := o; cases e; exact own
    · exact S.ow b ⟨p, f.mem_iff.mp (List.mem_cons_of_mem _ hp), o⟩
end
/-- the same, where no error may leave -/
def TTs.nx (tt : TTs) : TTs := ⟨tt.ts, fun _ _ _ => False⟩
def Gh.nx {tt : TTs} (G : Gh tt) : Gh tt.nx := ⟨G.H0, G.A, G.B, G.io⟩
section
variable {K : W.Frag} {tt : TTs} {G : Gh tt} {ρ ρ' : Fr} {hs : List Ent} {σ τ : L2.St} {H : Hp}
theorem Sim.nx (S : Sim K G ρ hs σ H) : Sim K G.nx ρ hs σ H := ⟨S.len, S.sp, S.frm, S.trk, S.ow, S.br, S.tabs, S.io⟩
theorem Sim.xn (S : Sim K G.nx ρ hs σ H) : Sim K G ρ hs σ H := ⟨S.len, S.sp, S.frm, S.trk, S.ow, S.br, S.tabs, S.io⟩
end
section
variable {tt : TTs} {X : Cx} {tg iter elt : Expr} {ifs : List Expr} {sc : Scope} {own : List (Str × Nat)} {p : Pos} {is : List Nat} {ms : Fr → Out (List D)} {g : TG} {put : D → Fr → Option Fr} {mt : Fr → Out Bool} {me : Fr → Out D}
theorem comp_step {σ : L2.St} {H : Hp} {Q : VK} {vs : List Nat} (hpt : PutOk X.K is g put) (his : ∀ i ∈ is, i ∈ vs) (h : T tt X.K (fun ρ => compM vs (ms ρ) put mt me) σ H Q) : tLc (TIm tt X.K ms) g (TB tt.nx X.K mt) (TD tt.nx X.K me) vs σ H Q := by
  obtain ⟨G, ρ, hs, S, h⟩ := h
  refine ⟨G, ρ, hs, S, ?_⟩
  have h' := bind_split (F := FinR X.K G hs σ Q) FinR.no h
  cases e : ms ρ with
  | no => rw [e] at h'; exact h'
  | ex C d => rw [e] at h'; exact h'
  | ok ds ρ1 =>
  rw [e] at h'
  intro J es H1 F S1 L hL
  have h' : FinR X.K G hs σ Q (if plainSlots vs ρ1 then (compLoop vs put mt me ds [] ρ1).bind fun ys ρ' => .ok (.new ys) (unwipe ρ1 (wipeF ρ' vs) vs) else .no) := h'
  split at h'
  case isFalse => exact h'.elim
  rename_i hp
  have S2 := (S1.noio.push_new hL .nil).saves vs hp
  have S3 : Sim (tt := tt) X.K { G with io := [] } ρ1 ((.own [], some (.ref L)) :: (es ++ (saved ρ1 σ vs ++ hs))) σ (upd H1 L (.lst [])) := S2.held (.refl _) (by
    refine (List.perm_middle).trans (List.Perm.cons _ ?_)
    rw [← List.append_assoc, ← List.append_assoc]
    exact List.perm_append_comm.append_right hs)
  refine ⟨fun i m H => m = ds.length - i ∧ i ≤ ds.length ∧ ∃ ρ' acc, Sim (tt := tt) X.K { G with io := [] } (wipeF ρ' vs) ((.own acc, some (.ref L)) :: (es ++ (saved ρ1 σ vs ++ hs))) (wipe σ vs) H ∧
    FinR X.K G hs σ Q ((compLoop vs put mt me (ds.drop i) acc ρ').bind fun ys ρ' => .ok (.new ys) (unwipe ρ1 (wipeF ρ' vs) vs)), ⟨_, rfl, Nat.zero_le _, ρ1, [], S3.wipes vs, h'⟩, ?_⟩
  rintro i m H2 ⟨rfl, hle, ρ2, acc, S4, h2⟩
  have hmem : ∀ q ∈ es, q ∈ (Sl.own acc, some (V.ref L)) :: (es ++ (saved ρ1 σ vs ++ hs)) := fun q hq => List.mem_cons_of_mem _ (List.mem_append_left _ hq)
  by_cases hlt : i < ds.length
  · obtain ⟨hgo, hyl⟩ := F.go _ _ _ _ H2 i ds[i] S4 hmem (List.getElem?_eq_getElem hlt)
    refine .inr ⟨hgo, fun H => ∃ ρ' acc, Sim (tt := tt) X.K { G with io := [] } (wipeF ρ' vs) ((.own acc, some (.ref L)) :: (es ++ (saved ρ1 σ vs ++ hs))) (wipe σ vs) H ∧
      FinR X.K G hs σ Q ((compLoop vs put mt me (ds.drop (i + 1)) acc ρ').bind fun ys ρ' => .ok (.new ys) (unwipe ρ1 (wipeF ρ' vs) vs)), fun H' q => ⟨ds.length - (i + 1), by omega, rfl, hlt, q⟩, fun x H3 hy => ?_⟩
    have S5 := hyl x H3 hy
    rw [List.drop_eq_getElem_cons hlt] at h2
    unfold compLoop at h2
    cases ep : put ds[i] (wipeF ρ2 vs) with
    | none => rw [ep] at h2; exact h2.elim
    | some ρ3 =>
      rw [ep] at h2
      dsimp only at h2
      refine hpt _ _ ρ3 _ _ H3 ds[i] x _ S5 (fun _ h => absurd h List.not_mem_nil) ep fun σ4 S6 hw => ?_
      have hw : wipe σ4 vs = wipe σ vs := (hw vs his).trans (wipe_twice σ vs)
      refine ⟨hw, ?_⟩
      refine TB.mono (TB.ask (P := fun b ρ2 => FinR X.K G hs σ Q ((if b then (me ρ2).bindN fun y ρ3 => if acc.length < sizeLine then compLoop vs put mt me (ds.drop (i + 1)) (acc ++ [y]) ρ3 else .no else compLoop vs put mt me (ds.drop (i + 1)) acc ρ2).bind fun ys ρ' => .ok (.new ys) (unwipe ρ1 (wipeF ρ' vs) vs))) S6.nx ?_) fun b H4 ⟨ρ4, S7, h4⟩ => ?_
      · cases et : mt ρ3 with
        | no => rw [et] at h2; exact h2
        | ex C d => rw [et] at h2; exact h2.elim
        | ok b ρ4 => rw [et] at h2; exact h2
      · have S7 := S7.xn
        cases b with
        | false =>
          rw [if_neg Bool.false_ne_true] at h4 ⊢
          exact ⟨ρ4, acc, hw ▸ S7.wipes vs, h4⟩
        | true =>
          rw [if_pos rfl] at h4 ⊢
          refine TD.mono (TD.ask (P := fun y ρ3 => FinR X.K G hs σ Q ((if acc.length < sizeLine then compLoop vs put mt me (ds.drop (i + 1)) (acc ++ [y]) ρ3 else .no).bind fun ys ρ' => .ok (.new ys) (unwipe ρ1 (wipeF ρ' vs) vs))) S7.nx ?_) fun y H5 ⟨d, ρ5, S8, h5⟩ => ?_
          · cases et : me ρ4 with
            | no => rw [et] at h4; exact h4
            | ex C d => rw [et] at h4; exact h4.elim
            | ok b ρ5 => rw [et] at h4; exact h4
          · have S8 := S8.xn
            split at h5
            case isFalse => exact h5.elim
            rename_i hsz
            have rd := held_rel S8
            have S9 := S8.held (hs' := (.own acc, some (.ref L)) :: (.val d, some y) :: (es ++ (saved ρ1 σ vs ++ hs))) (.refl _) (List.Perm.swap ..)
            obtain ⟨a, ws, e1, e2, rl, _⟩ := S9.sp.own (.own acc, some (.ref L)) (List.mem_append_right _ List.mem_cons_self) acc rfl
            cases e1
            have rd' := mem_val (es := [(.val d, some y)]) S9 (fun p hp => List.mem_cons_of_mem _ (List.mem_cons.mpr ((List.mem_cons.mp hp).imp id fun z => absurd z List.not_mem_nil))) List.mem_cons_self
            have S10 := S9.writeH (rl.app (.cons rd' .nil))
            have S11 := S10.held (hs' := (.own (acc ++ [d]), some (.ref L)) :: (es ++ (saved ρ1 σ vs ++ hs))) ((List.sublist_cons_self _ _).cons_cons _) (.refl _)
            exact ⟨ws, e2, by rw [← rl.length]; exact hsz, ρ5, acc ++ [d], hw ▸ S11.wipes vs, h5⟩
  · have e3 : ds.drop i = [] := List.drop_eq_nil_of_le (by omega)
    rw [e3] at h2
    refine .inl ⟨F.stop _ _ _ _ H2 i S4 hmem (by omega), ?_⟩
    have h2 : FinR X.K G hs σ Q (.ok (.new acc) (unwipe ρ1 (wipeF ρ2 vs) vs)) := h2
    have S5 := S4.held (hs' := saved ρ1 σ vs ++ ((.own acc, some (.ref L)) :: hs)) (h1 := (.own acc, some (.ref L)) :: (saved ρ1 σ vs ++ hs)) ((List.sublist_append_right _ _).cons_cons _) (List.perm_middle).symm
    have S6 := S5.unsave
    rw [unS_wipe] at S6
    exact h2 (.ref L) H2 (S6.reio S1.io) trivial
theorem se_comp (hc : X.calm = true) (hN : X.N.Nodup) (hi : PI X tg iter (TIm tt X.K ms)) (ok : BlkOk X.N X.env.scope sc own) (hpt : PutOk X.K is g put) (his : ∀ i ∈ is, i ∈ own.map (·.2))
    (hg : ∀ (s : Shared) (H : Hp) (C : Addr) (cl : List (Str × Addr)) (fp : List Addr), PG (X.blk s H sc (compEnvC sc cl C X.env) fp) tg g)
    (ht : ∀ (s : Shared) (H : Hp) (C : Addr) (cl : List (Str × Addr)) (fp : List Addr), PTs (X.blk s H sc (compEnvC sc cl C X.env) fp) ifs (TB tt.nx X.K mt))
    (he : ∀ (s : Shared) (H : Hp) (C : Addr) (cl : List (Str × Addr)) (fp : List Addr), PE (X.blk s H sc (compEnvC sc cl C X.env) fp) elt (TD tt.nx X.K me))
    (hs : ∀ x, foldedSetIterable iter X.env x = pure x) :
    PE X (.ListComp elt [⟨tg, iter, ifs, 0⟩] sc p) (T tt X.K fun ρ => compM (own.map (·.2)) (ms ρ) put mt me) :=
  pe_imp (pe_lc hc hN hi ok hg ht he hs) fun _ _ _ h => comp_step hpt his h
theorem ss_asgLc {i : Nat} {y : Str} {py spos : Pos} {io : List Nat} (hc : X.calm = true) (hN : X.N.Nodup) (hy : X.N[i]? = some y) (hyl : X.env.scope.names.lookup y = some .local)
    (hsw : swapsWith (.ListComp elt [⟨tg, iter, ifs, 0⟩] sc p) (some (.Name y py)) spos.line X.env = pure true) (hi : PI X tg iter (TIm tt X.K ms)) (ok : BlkOk X.N X.env.scope sc own) (hpt : PutOk X.K is g put) (his : ∀ i ∈ is, i ∈ own.map (·.2))
    (hg : ∀ (s : Shared) (H : Hp) (C : Addr) (cl : List (Str × Addr)) (fp : List Addr), PG (X.blk s H sc (compEnvC sc cl C X.env) fp) tg g)
    (ht : ∀ (s : Shared) (H : Hp) (C : Addr) (cl : List (Str × Addr)) (fp : List Addr), PTs (X.blk s H sc (compEnvC sc cl C X.env) fp) ifs (TB tt.nx X.K mt))
    (he : ∀ (s : Shared) (H : Hp) (C : Addr) (cl : List (Str × Addr)) (fp : List Addr), PE (X.blk s H sc (compEnvC sc cl C X.env) fp) elt (TD tt.nx X.K me))
    (hs : ∀ x, foldedSetIterable iter X.env x = pure x) :
    PS X (.Assign [.Name y py] (.ListComp elt [⟨tg, iter, ifs, 0⟩] sc p) spos) (TSm tt X.K io fun ρ => (compM (own.map (·.2)) (ms ρ) put mt me).toS fun r ρ => optS (putR io i r ρ)) :=
  ps_imp (ps_setLc hc hN hy hyl hsw hi ok hg ht he hs) fun D σ H ⟨G, ρ, hs, S, hio, h⟩ => by
    refine comp_step hpt his (T.mono (T.ask (ma := fun ρ => compM (own.map (·.2)) (ms ρ) put mt me) S (toS_split FinS.no h)) fun x H1 ⟨r, ρ1, S1, a1, h1⟩ => ?_)
    obtain ⟨ρ2, e, h2⟩ := FinS.opt h1
    exact h2 _ _ (Sim.putR S1 a1 hio e)
theorem pts_yes : PTs X [] (TB tt X.K fun ρ => .ok true ρ) := ⟨fun pins s σ H Q I ⟨G, ρ, hs, S, h⟩ => pts_nil.run pins s σ H Q I (h H S)⟩
end
end Py
end
section
set_option Elab.async false
set_option linter.all false
set_option autoImplicit false
set_option maxRecDepth 100000
/-! Rules, 11: sorted by keys. -/
namespace Py
open PySem PySem.Spec PyProof.Rows L2

section
variable {X : Cx} {pins : List (Addr × Obj)} {σ : L2.St} {H : Hp} {s : Shared}
/-- an object of the walk that nothing tracks is tracked from now on -/
theorem Inv.track {a : Addr} {o : HO} (I : Inv X pins σ H s) (f : FpOk X pins H a) (hex : ∃ u, s.heap.get? a = some u) (new : ObjOk X.prog X.w (upd H a o) s.heap a o) : Inv X pins σ (upd H a o) s := by
  have hn := f.1
  have ne : ∀ {b u}, H b = some u → upd H a o b = some u := fun {b u} e => by rw [upd_ne (ne_of_none e hn)]; exact e
  refine Inv.call' (ch := [a]) I rfl ⟨fun b u e _ _ _ => e, fun b u e _ _ _ => ⟨u.slots, e⟩, fun b u _ q hb => ?_, fun b u e _ => ⟨u, e⟩, fun b xs e => ne e, fun b u v e => ne e, fun b ps e => ⟨#[], by rw [ne e]; simp⟩⟩ (fun b u e => ?_) I.bare fun b hb => ?_
  · rw [upd_ne (fun z => hb (by simp [z]))]; exact q
  · by_cases z : b = a
    · subst z; rw [upd_same] at e; cases e; exact new
    · rw [upd_ne z] at e
      exact (I.hok b u e).stay (fun _ _ _ q => q) (fun _ q => ne q) fun _ _ q => ne q
  · have z : b = a := by simpa using hb
    subst z
    exact ⟨f.2.2.2.1, f.2.1, f.2.2.2.2.1, f.2.2.2.2.2⟩
/-- the context two calls of built-ins further in -/
def inn (X : Cx) : Cx := { X with A := X.A.in1.in1, xe := fun _ _ => False }
theorem Inv.inn (I : Inv X pins σ H s) : Inv (inn X) pins σ H s :=
  ⟨⟨I.ok.mod, I.ok.kind, I.ok.glob, I.ok.blt, I.ok.above, I.ok.inj, I.ok.has, I.ok.cab, I.ok.hd, I.ok.frames, I.ok.stk, I.ok.exf, I.ok.bs, I.ok.bsz, I.ok.noex, I.ok.exfs, I.ok.funs, I.ok.frf⟩, I.os, I.bare, I.base, I.loc, I.cell, I.free, I.freeC, I.pin, I.hok, I.len⟩
theorem Inv.outn (J : Inv (Py.inn X) pins σ H s) (ok : X.Ok) : Inv X pins σ H s :=
  ⟨ok, J.os, J.bare, J.base, J.loc, J.cell, J.free, J.freeC, J.pin, J.hok, J.len⟩
theorem room_in2 {k : Nat} {A : Around} (r : Room (k + 1) A) : Room k A.in1.in1 :=
  ⟨r.hd, by have := r.dp; show A.depth + 3 * k + 5 < _; omega, by have := r.un; show A.units + 1 + 1 + 16 * k + 200 < _; omega⟩
/-- f gives each item its key -/
def KeyRun (X : Cx) (pins0 : List (Addr × Obj)) (σ : L2.St) (f : Value) (t : V → Hp → VK → Prop) : Prop :=
  ∀ (pins : List (Addr × Obj)) (s : Shared) (H : Hp) (x : V) (v : Value) (Q : VK), (∀ p ∈ pins0, p ∈ pins) → Inv X pins σ H s → RelV x v → t x H Q → wpAny (model X.prog X.w) X.A.in1.in1 (call f [v]) (EP X pins σ Q) (fun _ _ => False) s
theorem vals_snoc {vs : List V} {us : List Value} {x : V} {u : Value} (h : Vals vs us) (q : RelV x u) : Vals (vs ++ [x]) (us ++ [u]) := h.append (.cons q .nil)
theorem each_zip {R : Value → D → Prop} : ∀ {us : List Value} {ds ks : List D}, W.EachIs R us ds → ks.length = ds.length → W.EachIs (fun v (p : D × D) => R v p.2) us (ks.zip ds)
  | _, _, [], .nil, _ => .nil
  | _, _, _ :: _, .nil, h => by simp at h
  | _, _, [], .cons _ _, h => by simp at h
  | _, _, k :: ks, .cons r t, h => .cons r (each_zip t (by simpa using h))
theorem each_snd {R : Value → D → Prop} : ∀ {us : List Value} {ps : List (D × D)}, W.EachIs (fun v (p : D × D) => R v p.2) us ps → W.EachIs R us (ps.map (·.2))
  | _, _, .nil => .nil
  | _, _, .cons r t => .cons r (each_snd t)
theorem zip_fst : ∀ {ks ds : List D}, ks.length = ds.length → (ks.zip ds).map (·.1) = ks
  | [], [], _ => rfl
  | [], _ :: _, h => by simp at h
  | _ :: _, [], h => by simp at h
  | k :: ks, d :: ds, h => by simp only [List.zip_cons_cons, List.map_cons]; rw [zip_fst (by simpa using h)]
/-- the keys one by one, then the sort -/
theorem key_rest {a kS e1 : Nat} {f : Value} {vs : List V} {its : List Value} {Q : VK} {E : Value → Shared → Prop} {t : V → Hp → VK → Prop} {Z : Nat → List V → Hp → Prop} (I : Inv X (pins ++ [(a, seqObj "list" #[] e1), (kS, seqObj "list" #[] 0)]) σ H s)
    (fa : FpOk X pins H a) (fk : FpOk X pins H kS) (hka : kS ≠ a) (rv : Vals vs its) (hZ : vs.length ≤ sizeLine) (R : KeyRun X pins σ f t) (hu : X.A.in1.in1.units + 50 < cLine) (w0 : Z 0 [] H) (step : ∀ i x kv H, vs[i]? = some x → Z i kv H → t x H fun k H' => Z (i + 1) (kv ++ [k]) H')
    (done : ∀ kv H', Z vs.length kv H' → ∃ N ks ds, RelL X.K N H' ks kv ∧ RelL X.K N H' ds vs ∧ sortOk ks = true ∧ ∀ p ws, H' p = none → RelL X.K N H' (byKeys ks ds) ws → Q (.ref p) (upd H' p (.lst ws))) :
    wpAny (model X.prog X.w) X.A.in1.in1 (ksk_rest a f false its.toArray e1 (.ref kS)) (fun r s' => r = .done (.ret .none) ∧ EP X pins σ Q (.ref a) s') E s := by
  have lenV := rv.length
  unfold ksk_rest
  refine wpAny_bind (wpAny_rule ?_)
  first
    | rw [List.forIn_toArray]
    | (rw [← Array.forIn_toList]; simp only [List.toList_toArray])
    | rw [← Array.forIn_toList]
  refine wpAny_bind (ksk_fold (fun i s' => ∃ H' kA e kv, Inv X (pins ++ [(a, seqObj "list" #[] e1), (kS, seqObj "list" kA e)]) σ H' s' ∧ Vals kv kA.toList ∧ kA.size = i ∧ Z i kv H') its 0 s ⟨H, #[], 0, [], I, .nil, rfl, w0⟩ (fun j v s1 hv h1 => ?_) fun s1 h1 => ?_)
  · obtain ⟨H1, kA, e, kv, I1, rk, hsz, w1⟩ := h1
    rw [Nat.zero_add] at hsz w1 ⊢
    have hj : j < vs.length := by rw [lenV]; exact (List.getElem?_eq_some_iff.mp hv).1
    obtain ⟨u, hu1, ru⟩ := rv.get (List.getElem?_eq_getElem hj)
    rw [hv] at hu1; cases hu1
    refine wpAny_bind (wpAny_attempt (wpAny_mono (R _ s1 H1 vs[j] v _ (fun p hp => List.mem_append_left _ hp) I1 ru (step j _ kv H1 (List.getElem?_eq_getElem hj) w1)) (fun k s2 h2 => ?_) fun _ _ z => z.elim))
    obtain ⟨kx, H2, I2, rkx, w2⟩ := h2
    have pk := I2.pin (kS, seqObj "list" kA e) (List.mem_append_right _ (List.mem_append_right _ (by simp)))
    have pa := I2.pin (a, seqObj "list" #[] e1) (List.mem_append_right _ (List.mem_append_right _ (by simp)))
    have hle : kA.size ≤ sizeLine := by omega
    refine wpAny_bind (listUpdate_at pk.1 rfl ?_ hle (Nat.le_trans (Nat.le_of_eq (Array.size_push ..)) (Nat.succ_le_succ hle)))
    have sb := Heap.SameBut.update s2.heap kS (Obj.mapSeq (·.push k))
    obtain ⟨c2, hc2⟩ : ∃ c2, (s2.heap.update kS (Obj.mapSeq (·.push k))).get? kS = some (seqObj "list" (kA.push k) c2) := ⟨_, get?_update_seq pk.1 (·.push k)⟩
    refine wpAny_pure ⟨rfl, H2, kA.push k, c2, kv ++ [kx], ?_, ?_, by rw [Array.size_push, hsz], w2⟩
    · have J : Inv X pins σ H2 s2 := I2.unpinned
      have J1 := J.turned (t' := s2.toks) (fun b o hb q => (sb.2 b hb).trans q) pk.2.1 fk.2.1 fk.2.2.2.1 fk.2.2.2.2.1 fk.2.2.2.2.2
      refine J1.pins_of fun p hp => ?_
      rcases List.mem_append.mp hp with hp | hp
      · exact J1.pin p (List.mem_append_right _ hp)
      · have hp : p = (a, seqObj "list" #[] e1) ∨ p = (kS, seqObj "list" (kA.push k) c2) := by simpa using hp
        rcases hp with rfl | rfl
        · exact ⟨(sb.2 a hka.symm).trans pa.1, pa.2⟩
        · exact ⟨hc2, pk.2.1, fk.2.1, fk.2.2.1, fun _ z => nomatch z⟩
    · rw [Array.toList_push]
      exact vals_snoc rk rkx
  · obtain ⟨H1, kA, e, kv, I1, rk, hsz, w1⟩ := h1
    rw [Nat.zero_add] at hsz w1
    rw [← lenV] at w1
    obtain ⟨N, ks, ds, rks, rds, hso, q⟩ := done kv H1 w1
    have pk := I1.pin (kS, seqObj "list" kA e) (List.mem_append_right _ (List.mem_append_right _ (by simp)))
    have pa := I1.pin (a, seqObj "list" #[] e1) (List.mem_append_right _ (List.mem_append_right _ (by simp)))
    refine wpAny_bind (listItems_at pk.1 rfl ?_)
    have ek : W.EachIs (fun v d => ∃ as, Reads s1.heap v d as) kA.toList ks := (each_and (each_of rks rk) fun d hd => fine_okD (sortOk_fine hso d hd)).mono fun v d h => reads_of I1 h.2 h.1
    have hsub := Heap.SameBut.update s1.heap kS (fun o => { o with data := .freed })
    have hl : ks.length = ds.length := by rw [rks.length, rds.length, rk.length, Array.length_toList, hsz, lenV]
    have hk0 : (s1.heap.update kS (fun o => { o with data := .freed })).get? kS = none := by
      unfold Heap.get? Heap.update
      have hlt : kS < s1.heap.objs.size := Heap.lt_size pk.1
      simp [hlt, Array.getElem_modify]
    refine W.keyH_end (h₁ := s1.heap.update kS (fun o => { o with data := .freed })) (vs := its) (fun b o hb z => ?_) hk0 pk.1 pa.1 hka (sortsAt_ok ek hso hu) hsz (by rw [← lenV]; exact hZ) fun h' tk c kp hc => ⟨rfl, ?_⟩
    · by_cases z2 : b = kS
      · subst z2; rw [hk0] at z; cases z
      · exact (hsub.2 b z2).symm.trans z
    · have kk : ∀ b o, b ∉ [a, kS] → s1.heap.get? b = some o → h'.get? b = some o := fun b o hb z => kp b o (fun y => hb (by simp [y])) ((hsub.2 b (fun y => hb (by simp [y]))).trans z)
      have J : Inv X pins σ H1 s1 := I1.unpinned
      have fa1 : FpOk X pins H1 a := ⟨pa.2.1, fa.2⟩
      have fk1 : FpOk X pins H1 kS := ⟨pk.2.1, fk.2⟩
      have J1 := J.turnedL (t' := tk) (ch := [a, kS]) kk fun b hb => by
        rcases (show b = a ∨ b = kS by simpa using hb) with rfl | rfl
        · exact fa1
        · exact fk1
      have eo : W.EachIs (StD X.K N H1) (W.sortVals (W.dataKind s1.heap ks) false kA.toList its) (byKeys ks ds) := each_snd (W.keyedOut_each (β := D × D) (bs := ks.zip ds) (fun p => p.1) ⟨s1.heap, kA.toList, by rw [zip_fst hl]; exact sortOk_alike hso, by rw [zip_fst hl], by rw [zip_fst hl]; exact ek⟩ (each_zip (each_of rds rv) hl))
      revert eo hc
      generalize W.sortVals (W.dataKind s1.heap ks) false kA.toList its = out
      intro hc eo
      obtain ⟨ws, r2, rl⟩ := of_each eo
      have hwl : ws.length ≤ sizeLine := by
        rw [← rl.length]
        unfold byKeys
        rw [List.length_map, List.length_mergeSort, List.length_zip, rds.length]
        omega
      have J2 := Inv.track (o := .lst ws) J1 fa1 ⟨_, hc⟩ ⟨hwl, out, c, r2, hc⟩
      exact ⟨.ref a, _, J2, rfl, q a ws pa.2.1 rl⟩
/-- sorted(xs, key=f) -/
theorem sort_keys {g : Addr} {l : V} {u : Value} {d : D} {ds : List D} {N0 : Addr → Prop} {Q : VK} {t : V → Hp → VK → Prop} (I : Inv X pins σ H s) (rl : RelT X.K N0 H d l) (hi : itemsD d = some ds) (ru : RelV l u) (R : KeyRun X pins σ (.ref g) t) (hu : X.A.units + 64 < cLine)
    (h : ∀ vs, RelL X.K N0 H ds vs → ∃ Z : Nat → List V → Hp → Prop, Z 0 [] H ∧ (∀ i x kv H, vs[i]? = some x → Z i kv H → t x H fun k H' => Z (i + 1) (kv ++ [k]) H') ∧
      ∀ kv H', Z vs.length kv H' → ∃ N ks ds, RelL X.K N H' ks kv ∧ RelL X.K N H' ds vs ∧ sortOk ks = true ∧ ∀ p ws, H' p = none → RelL X.K N H' (byKeys ks ds) ws → Q (.ref p) (upd H' p (.lst ws))) :
    wpAny (model X.prog X.w) X.A (call (.builtin "sorted") [u] [(Str.ofString "key", .ref g)]) (EP X pins σ Q) X.xe s := by
  obtain ⟨l0, vs, rfl, hq, rl⟩ := items_rel rl hi
  cases ru
  have hin : X.A.in1.in1.units + 50 < cLine := by show X.A.units + 1 + 1 + 50 < cLine; omega
  obtain ⟨Z, w0, step, done⟩ := h vs rl
  refine sorted_shell (ksk_s1 _ _) (fun _ => ksk_l1 _ _) ?_
  have go : ∀ (its : List Value) (h1 : Heap), Vals vs its → vs.length ≤ sizeLine → (∀ b u, s.heap.get? b = some u → h1.get? b = some u) → s.heap.objs.size ≤ h1.objs.size → its.length ≤ sizeLine ∧ ∀ E' : Value → Shared → Prop,
      wpAny (model X.prog X.w) X.A.in1.in1 (Builtin.«list.sort» ⟨[.ref h1.objs.size], [(Str.ofString "key", .ref g)]⟩) (fun f s' => f = .done (.ret .none) ∧ EP X pins σ Q (.ref h1.objs.size) s') E' { s with heap := h1.push (seqObj "list" its.toArray 0) } := fun its h1 rv hz k hsz => by
    have lenV := rv.length
    refine ⟨by rw [← lenV]; exact hz, fun E' => ?_⟩
    rw [ksk_t1]
    have ho : (h1.push (seqObj "list" its.toArray 0)).get? h1.objs.size = some (seqObj "list" its.toArray 0) := Heap.get?_push_size _ rfl
    obtain ⟨e1, ho1⟩ : ∃ e1, ((h1.push (seqObj "list" its.toArray 0)).update h1.objs.size (Obj.mapSeq fun _ => (#[] : Array Value))).get? h1.objs.size = some (seqObj "list" #[] e1) := ⟨_, get?_update_seq ho fun _ => #[]⟩
    unfold ksk_tree
    refine wpAny_bind (listItems_at ho rfl ?_)
    refine wpAny_bind (listUpdate_at ho rfl ?_ (by rw [List.size_toArray, ← lenV]; exact hz) (Nat.zero_le _))
    refine wpAny_bind (seqEpoch_at ho1 rfl ?_)
    refine wpAny_bind (wpAny_newTuple ?_ (by show its.length ≤ _; rw [← lenV]; exact hz))
    refine wpAny_bind (wpAny_newList ?_ (Nat.zero_le _))
    refine wpAny_holding ?_
    generalize hh2 : (h1.push (seqObj "list" its.toArray 0)).update h1.objs.size (Obj.mapSeq fun _ => (#[] : Array Value)) = h2 at ho1 ⊢
    have sz2 : h2.objs.size = h1.objs.size + 1 := by rw [← hh2, Heap.size_update, size_push']
    have k2 : ∀ b u, s.heap.get? b = some u → h2.get? b = some u := fun b u q => by
      rw [← hh2, Heap.get?_update_ne _ _ _ _ (Nat.ne_of_lt (Heap.lt_size (k b u q)))]
      exact Heap.get?_push_of_some _ (k b u q)
    show wpAny _ _ (ksk_rest h1.objs.size (.ref g) false its.toArray e1 (.ref (h2.push (seqObj "tuple" its.toArray 0)).objs.size)) _ _ { s with heap := (h2.push (seqObj "tuple" its.toArray 0)).push (seqObj "list" #[] 0) }
    have kS : (h2.push (seqObj "tuple" its.toArray 0)).objs.size = h1.objs.size + 2 := by rw [size_push', sz2]
    have I3 : Inv X pins σ H { s with heap := (h2.push (seqObj "tuple" its.toArray 0)).push (seqObj "list" #[] 0) } := I.kept (t' := s.toks) fun b u q => Heap.get?_push_of_some _ (Heap.get?_push_of_some _ (k2 b u q))
    have hkl : s.heap.objs.size ≤ (h2.push (seqObj "tuple" its.toArray 0)).objs.size := by rw [kS]; omega
    have fa := I.fpOk hsz (I.hok.fresh hsz)
    have fk := I.fpOk hkl (I.hok.fresh hkl)
    refine key_rest (pins := pins) (I3.pins_of fun p hp => ?_) fa fk (by rw [kS]; omega) rv hz R hin w0 step done
    rcases List.mem_append.mp hp with hp | hp
    · exact I3.pin p (List.mem_append_right _ hp)
    · have hp : p = (h1.objs.size, seqObj "list" #[] e1) ∨ p = ((h2.push (seqObj "tuple" its.toArray 0)).objs.size, seqObj "list" #[] 0) := by simpa using hp
      rcases hp with rfl | rfl
      · exact ⟨Heap.get?_push_of_some _ (Heap.get?_push_of_some _ ho1), fa.1, fa.2.1, fa.2.2.1, fun _ z => nomatch z⟩
      · exact ⟨Heap.get?_push_size _ rfl, fk.1, fk.2.1, fk.2.2.1, fun _ z => nomatch z⟩
  have up : ∀ (its : List Value) b u, s.heap.get? b = some u → ((s.heap.push (seqObj "list" #[] 0)).update s.heap.objs.size (Obj.mapSeq (· ++ its.toArray))).get? b = some u := fun its b u h => by
    rw [Heap.get?_update_ne _ _ _ _ (Nat.ne_of_lt (Heap.lt_size h))]
    exact Heap.get?_push_of_some _ h
  have sz : ∀ (its : List Value), s.heap.objs.size ≤ ((s.heap.push (seqObj "list" #[] 0)).update s.heap.objs.size (Obj.mapSeq (· ++ its.toArray))).objs.size := fun its => by
    rw [Heap.size_update, size_push']; exact Nat.le_succ _
  rcases hq with hq | hq
  · obtain ⟨its, rv, pl, hz⟩ := I.list hq
    exact collect_list (A := X.A.in1) pl.isList (go its _ rv hz (up its) (sz its)) (by rw [← rv.length]; exact hz)
  · obtain ⟨its, rv, pl, hz⟩ := I.tuple hq
    exact collect_tuple (A := X.A.in1) pl (go its _ rv hz (up its) (sz its)) (by rw [← rv.length]; exact hz)
end
end Py
end
section
set_option Elab.async false
set_option linter.all false
set_option autoImplicit false
set_option maxRecDepth 100000
/-! Rules, 12: sorted by the keys of a def, of a lambda. -/
namespace Py
open PySem PySem.Spec PyProof.Rows L2

section
variable {tt : TTs} {X : Cx} {K : W.Frag} {G : Gh tt} {ρ ρ' : Fr} {hs hs' es : List Ent} {σ : L2.St} {H H' H1 : Hp} {Q : VK}
theorem key_sim {g : D → Fr → Out D} {t : V → Hp → VK → Prop} {d0 : D} {x0 : V} {ds : List D} (hg : ∀ (ρ : Fr) (hs : List Ent) (H : Hp) (d : D) (x : V) (Q : VK), Sim K G.nx ρ hs σ H → RelD K (NS G ρ hs σ) H d x → FinD K G.nx hs σ Q (g d ρ) → t x H Q)
    (S : Sim K G ρ ((.val d0, some x0) :: hs) σ H) (h : FinR K G hs σ Q ((keyLoop g ds ρ).bind fun ks ρ => ask (skeyM ks ds) ρ)) :
    ∀ vs, RelL K (NS G ρ ((.val d0, some x0) :: hs) σ) H ds vs → ∃ Z : Nat → List V → Hp → Prop, Z 0 [] H ∧ (∀ i x kv H, vs[i]? = some x → Z i kv H → t x H fun k H' => Z (i + 1) (kv ++ [k]) H') ∧
      ∀ kv H', Z vs.length kv H' → ∃ N ks ds, RelL K N H' ks kv ∧ RelL K N H' ds vs ∧ sortOk ks = true ∧ ∀ p ws, H' p = none → RelL K N H' (byKeys ks ds) ws → Q (.ref p) (upd H' p (.lst ws)) := by
  intro vs rl
  obtain ⟨es0, E0, S0, _⟩ := S.pushL rl
  refine ⟨fun i kv H => ∃ ρ' ks es, EntsD ks kv es ∧ Sim K G ρ' (es ++ (es0 ++ ((.val d0, some x0) :: hs))) σ H ∧ FinR K G hs σ Q ((keyLoop g (ds.drop i) ρ').bind fun ks' ρ => ask (skeyM (ks ++ ks') ds) ρ), ⟨ρ, [], [], .nil, S0, h⟩, ?_, ?_⟩
  · rintro i x kv H2 hx ⟨ρ2, ks, es, E, S2, h2⟩
    have hlt : i < ds.length := by rw [rl.length]; exact (List.getElem?_eq_some_iff.mp hx).1
    rw [List.drop_eq_getElem_cons hlt] at h2
    have rds := ents_rel E0 (fun p hp => List.mem_append_right _ (List.mem_append_left _ hp)) S2
    obtain ⟨v, hv, rd⟩ := rds.get (List.getElem?_eq_getElem hlt)
    rw [hx] at hv; cases hv
    refine hg ρ2 _ H2 ds[i] x _ S2.nx rd ?_
    unfold keyLoop at h2
    cases e : g ds[i] ρ2 with
    | no => rw [e] at h2; exact h2
    | ex C d => rw [e] at h2; exact h2.elim
    | ok k ρ3 =>
      rw [e] at h2
      intro kx H3 S3
      have S3 := S3.xn
      refine ⟨ρ3, ks ++ [k], es ++ [(.val k, some kx)], E.app (.cons .nil), S3.held (.refl _) ?_, ?_⟩
      · rw [List.append_assoc]
        exact List.perm_middle.symm
      · have e2 : ∀ o : Out (List D), (o.bind fun ks ρ => Out.ok (k :: ks) ρ).bind (fun ks' ρ => ask (skeyM (ks ++ ks') ds) ρ) = o.bind fun ks' ρ => ask (skeyM (ks ++ [k] ++ ks') ds) ρ := fun o => by
          cases o with
          | no => rfl
          | ex C d => rfl
          | ok ks' ρ => simp only [Out.bind_ok]; rw [List.append_assoc]; rfl
        rw [Out.bindN_ok, e2] at h2
        exact h2
  · rintro kv H2 ⟨ρ2, ks, es, E, S2, h2⟩
    have e3 : ds.drop vs.length = [] := List.drop_eq_nil_of_le (by rw [rl.length]; exact Nat.le_refl _)
    rw [e3] at h2
    have h2 : FinR K G hs σ Q (ask (skeyM (ks ++ []) ds) ρ2) := h2
    rw [List.append_nil] at h2
    obtain ⟨r, er, h3⟩ := h2.asked
    unfold skeyM at er
    split at er
    · rename_i hso
      cases er
      refine ⟨_, ks, ds, ents_rel E (fun p hp => List.mem_append_left _ hp) S2, ents_rel E0 (fun p hp => List.mem_append_right _ (List.mem_append_left _ hp)) S2, hso, fun p ws hp rw' => ?_⟩
      have S3 : Sim K G ρ2 ((es ++ (es0 ++ [(.val d0, some x0)])) ++ hs) σ H2 := S2.held (.refl _) (by simp)
      have rw2 : RelL K (NS G ρ2 ((es ++ (es0 ++ [(.val d0, some x0)])) ++ hs) σ) H2 (byKeys ks ds) ws := by
        have e4 : (es ++ (es0 ++ [(Sl.val d0, some x0)])) ++ hs = es ++ (es0 ++ (Sl.val d0, some x0) :: hs) := by simp
        rw [e4]; exact rw'
      obtain ⟨S4, a4⟩ := S3.res (r := .new (byKeys ks ds)) (res_new hp rw2)
      exact h3 _ _ S4 a4
    · cases er
/-- the state seen from here on -/
theorem Sim.rebase (S : Sim K G ρ hs σ H) : Sim (tt := tt) K ⟨H, fun a => ∃ p ∈ ρ.zip σ ++ hs, Owns p a, G.B, []⟩ ρ hs σ H :=
  ⟨S.len, S.sp, fun _ _ e _ _ => e, fun _ o => o, fun _ o => .inl o, fun a b => ⟨S.trk a (S.br a b).1, fun ⟨p, hp, ⟨ds, e⟩, e2⟩ => by
    obtain ⟨c, vs, e3, _, _, nb⟩ := S.sp.own p hp ds e
    rw [e2] at e3; cases e3
    exact nb b⟩, S.tabs, fun _ h => absurd h List.not_mem_nil⟩
theorem Sim.unbase {A' : Addr → Prop} (S : Sim K G ρ hs σ H) (hA : ∀ a, A' a → ∃ p ∈ ρ.zip σ ++ hs, Owns p a) (S' : Sim (tt := tt) K ⟨H, A', G.B, []⟩ ρ' hs' σ H') : Sim K G ρ' hs' σ H' := by
  have ownc : ∀ a, A' a → G.A a ∨ ¬ Old G.H0 a := fun a h => S.ow a (hA a h)
  refine ⟨S'.len, S'.sp, fun a o e t n => S'.frm a o (S.frm a o e t n) t fun z => ?_, fun a o => S'.trk a (S.trk a o), fun a h => ?_, S.br, S'.tabs, S.io⟩
  · rcases ownc a z with y | y
    · exact n y
    · exact y ⟨o, e, t⟩
  · rcases S'.ow a h with z | z
    · exact ownc a z
    · exact .inr fun o => z (S.trk a o)
theorem Sim.extn (S : Sim K G ρ hs σ H) (e : LamX.ExtN H H') (t : LamX.Tabs tt.ts H') : Sim K G ρ hs σ H' :=
  ⟨S.len, S.sp.grow fun a o q n => e a o q n, fun a o q n m => e a o (S.frm a o q n m) n, fun a o => (S.trk a o).keep fun u q n => e a u q n, S.ow, S.br, t, S.io⟩
/-- a lambda's turn -/
theorem lam_sim {i : Nat} {me : Fr → Out D} {d : D} {x : V} (S : Sim K G ρ hs σ H) (rd : RelD K (NS G ρ hs σ) H d x) (h : FinD K G hs σ Q (lamM i me d ρ)) : TD tt K me (σ.set i (some x)) H Q := by
  unfold lamM at h
  split at h
  · rename_i hp
    have S1 := ((S.push_dt rd).noio).saves [i] hp
    have S2 : Sim (tt := tt) K { G with io := [] } ρ ((.val d, some x) :: (saved ρ σ [i] ++ hs)) σ H := S1.held (.refl _) (List.Perm.swap ..)
    have S3 := S2.putAt (i := i) (fun _ h => absurd h List.not_mem_nil)
    refine ⟨_, _, _, S3, ?_⟩
    cases e : me (ρ.set i (.val d)) with
    | no => rw [e] at h; exact h
    | ex C d => rw [e] at h; exact fun v H dx x hd => h v H dx ⟨x.sp, x.frm, x.trk, x.tabs⟩ hd
    | ok k ρ2 =>
      rw [e] at h
      intro kx H2 S4
      have h : FinD K G hs σ Q (.ok k (ρ2.set i (ρ.getD i .no))) := h
      refine h kx H2 ?_
      have S5 : Sim (tt := tt) K { G with io := [] } ρ2 ((ρ.getD i .no, σ.getD i none) :: ((.val k, some kx) :: hs)) (σ.set i (some x)) H2 := S4.held (.refl _) (List.Perm.swap ..)
      have S6 := S5.putAt (i := i) (fun _ h => absurd h List.not_mem_nil)
      have e5 : (σ.set i (some x)).set i (σ.getD i none) = σ := by
        rw [List.set_set]
        apply List.ext_getElem?
        intro j
        rw [List.getElem?_set]
        by_cases z : i = j
        · subst z
          by_cases hl : i < σ.length
          · simp [hl, List.getD_eq_getElem?_getD]
          · simp [hl]
        · rw [if_neg z]
      rw [e5] at S6
      exact S6.reio S.io
  · exact h.elim
end

/-! ### a lambda of one parameter -/
structure LamP (sc scope : Scope) (a : Str) : Prop where
  kind : scope.kind = .function
  co : scope.isCoroutine = false
  gen : scope.isGenerator = false
  own : ∀ y ∈ scope.names, y.2 ≠ .cell ∧ (y.2 = .local → y.1 = a)
  loc : scope.names.lookup a = some .local
  free : ∀ y ∈ scope.names, y.2 = .free → sc.names.lookup y.1 = some .cell ∨ sc.names.lookup y.1 = some .free
def lamPB (sc scope : Scope) (a : Str) : Bool :=
  decide (scope.kind = .function) && !scope.isCoroutine && !scope.isGenerator && (scope.names.all fun y => !decide (y.2 = .cell) && (!decide (y.2 = .local) || decide (y.1 = a)) && (!decide (y.2 = .free) || decide (sc.names.lookup y.1 = some .cell) || decide (sc.names.lookup y.1 = some .free))) && decide (scope.names.lookup a = some .local)
theorem lamP_by {sc scope : Scope} {a : Str} (h : lamPB sc scope a = true) : LamP sc scope a := by
  unfold lamPB at h
  simp only [Bool.and_eq_true, Bool.or_eq_true, Bool.not_eq_true', decide_eq_true_eq, decide_eq_false_iff_not, List.all_eq_true] at h
  obtain ⟨⟨⟨⟨h1, h2⟩, h3⟩, h4⟩, h5⟩ := h
  refine ⟨h1, h2, h3, fun y hy => ⟨(h4 y hy).1.1, fun e => ?_⟩, h5, fun y hy e => ?_⟩
  · rcases (h4 y hy).1.2 with z | z
    · exact absurd e z
    · exact z
  · rcases (h4 y hy).2 with (z | z) | z
    · exact absurd e z
    · exact .inl z
    · exact .inr z
/-- the context of the lambda's body -/
def lamC (X : Cx) (A : Around) (s : Shared) (H : Hp) (scope : Scope) (f c' : Addr) : Cx := { LamX.lamCx X A X.stack s H (fun _ _ _ => False) scope f c' with xe := fun _ _ => False }
section
variable {X : Cx} {pins : List (Addr × Obj)} {σ : L2.St} {H : Hp} {s : Shared} {scope : Scope} {a : Str} {i : Nat} {f c' : Addr}
theorem LamP.has (L : LamP X.env.scope scope a) (ok : X.Ok) : ∀ y ∈ scope.names, y.2 = .free → ∃ c, X.env.cells.lookup y.1 = some c := fun y hy e => by
  rcases L.free y hy e with k | k
  · exact ok.has _ (.inl k)
  · exact ok.has _ (.inr k)
theorem lam_start {A : Around} {h₁ : Heap} {tk : Nat} {x : V} {v : Value} (hNd : X.N.Nodup) (hNi : X.N[i]? = some a) (I : Inv X pins σ H s) (L : LamP X.env.scope scope a) (hd : A.handled = none) (hfr : A.frames = some X.stack) (r : RelV x v)
    (hns : h₁.Ns s.heap.objs.size fun y => ([(a, v)] : List (Str × Value)).reverse.lookup y) (kp : ∀ b o, s.heap.get? b = some o → h₁.get? b = some o) :
    Inv (lamC X A s H scope f c') [] (σ.set i (some x)) H { s with heap := h₁, toks := tk } := by
  have hfree := L.has I.ok
  have e0 := I.env0
  have cm : ∀ {y c}, (cloFrom X.env.cells scope.names []).lookup y = some c → X.env.cells.lookup y = some c := fun {y c} e => by
    rcases cloFrom_mem (PySem.mem_of_lookup e) with hm | ⟨h1, h2⟩
    · cases hm
    · obtain ⟨c1, hc⟩ := hfree _ h1 rfl
      have hc : X.env.cells.lookup y = some c1 := hc
      have e2 : c = c1 := by
        rw [h2, hc] <;> rfl
      rw [e2]; exact hc
  have look : ∀ {y}, scope.names.lookup y = some .free → ∃ c, (cloFrom X.env.cells scope.names []).lookup y = some c := fun {y} hl => by
    have hy : (y, NameKind.free) ∈ scope.names := PySem.mem_of_lookup hl
    exact mem_lookup (cloFrom_has (cells := X.env.cells) (acc := []) hy)
  have noA : ∀ b : Addr, b ∉ (lamC X A s H scope f c').ex := fun b z => absurd (show b ∈ ([] : List Addr) from z) (by simp)
  refine ⟨⟨e0.mod, L.kind, rfl, rfl, Nat.le_refl _, fun y z c e1 e2 => I.ok.inj y z c (cm e1) (cm e2), fun y hy => ?_, fun y c z _ => ?_, fun _ => hd, Around.frames_deeper hfr, .inr ⟨rfl, rfl⟩, fun b z => absurd z (noA b), e0.bs, e0.bsz, fun b _ _ => noA b,
      fun b z => absurd z (noA b), e0.funs, e0.frf⟩,
    rfl, e0.bare, Un.kept kp, ⟨_, hns, fun j y u e1 e2 e3 => ?_⟩, fun y c e => ?_, e0.hok.fresh (Nat.le_refl _), fun y c e => I.freeC y c (cm e), fun q hq => absurd (show q ∈ ([] : List (Addr × Obj)) ++ [] from hq) (by simp), e0.hok.kept kp, by rw [List.length_set]; exact I.len⟩
  · have hy : scope.names.lookup y = some .cell ∨ scope.names.lookup y = some .free := hy
    rcases hy with hy | hy
    · exact absurd rfl (L.own _ (PySem.mem_of_lookup hy)).1
    · exact look hy
  · have z : false = true := z
    cases z
  · have e3 : Vis scope y := e3
    have e1 : X.N[j]? = some y := e1
    rcases e3 with k | k | k
    · have hy : y = a := (L.own _ (PySem.mem_of_lookup k)).2 rfl
      subst hy
      have hj : j = i := nodup_ix hNd e1 hNi
      subst hj
      have hl : j < σ.length := by
        by_cases hl : j < σ.length
        · exact hl
        · rw [List.getElem?_eq_none (by simpa using hl)] at e2; cases e2
      rw [List.getElem?_set_self hl] at e2
      cases e2
      exact ⟨v, r, .inl ⟨k, by simp⟩⟩
    · exact absurd rfl (L.own _ (PySem.mem_of_lookup k)).1
    · have hji : j ≠ i := fun z => by
        subst z
        rw [hNi] at e1
        cases e1
        rw [L.loc] at k; cases k
      rw [List.getElem?_set_ne (Ne.symm hji)] at e2
      obtain ⟨m, hn, hl⟩ := I.loc
      have hvis : Vis X.env.scope y := (L.free _ (PySem.mem_of_lookup k) rfl).elim (fun k => .inr (.inl k)) (fun k => .inr (.inr k))
      obtain ⟨w', r', q⟩ := hl j y u e1 e2 hvis
      obtain ⟨c2, h2⟩ := look k
      refine ⟨w', r', .inr ⟨.inr k, c2, h2, ?_⟩⟩
      have c1 := cm h2
      rcases q with ⟨k', _⟩ | ⟨_, c3, e', z⟩
      · have k' : X.env.scope.names.lookup y = some .local := k'
        rcases L.free _ (PySem.mem_of_lookup k) rfl with k2 | k2 <;> rw [show X.env.scope.names.lookup y = _ from k2] at k' <;> cases k'
      · rw [c1] at e'
        cases e'
        obtain ⟨o, ho, hdo⟩ := z
        exact ⟨o, kp _ _ ho, hdo⟩
  · obtain ⟨w', o, ho, hdo⟩ := I.cell y c (cm e)
    exact ⟨w', o, kp _ _ ho, hdo⟩
theorem bind_one {a : Str} {pa : Pos} {name qual : Str} {body : Expr} {cl : List (Str × Addr)} {pm cd ct v : Value} : bindArgs (PySem.W.kla_fn name qual (arg1 a pa) body scope cl pm cd ct) ⟨[v], []⟩ = pure [(a, v)] := by
  have e : List.lookup a [(a, v)] = some v := by simp [List.lookup]
  unfold bindArgs
  simp [PySem.W.kla_fn, arg1, e, seqItems?, notAStandIn]
/-- each call of the lambda -/
theorem keyrun_lam {pa : Pos} {body : Expr} {pm ctv : Value} {k : Nat} {tb : TE} (hNd : X.N.Nodup) (hNi : X.N[i]? = some a) (L : LamP X.env.scope scope a) (hr : Room (k + 2) X.A)
    (hbody : ∀ (s : Shared) (H : Hp), PE (lamC X X.A.in1.in1 s H scope f c') body tb) :
    KeyRun X [(f, PySem.W.kla_obj "<lambda>" (X.env.qual ++ "<lambda>") (arg1 a pa) body scope (cloFrom X.env.cells scope.names []) pm c' ctv)] σ (.ref f) fun x H Q => H c' = some (LamX.CodeO c' (X.env.qual ++ "<lambda>")) ∧ tb (σ.set i (some x)) H Q := by
  intro pins s H x v Q hsub I r ⟨hc, ht⟩
  have hr1 : Room (k + 1) X.A.in1.in1 := room_in2 hr
  have of1 := (I.pin _ (List.mem_append_right _ (hsub _ List.mem_cons_self))).1
  obtain ⟨⟨oc, vs, t, hoc, hdc, hvc⟩, _, _⟩ := I.hok c' _ hc
  have rc : codeAny (model X.prog X.w) X.A.in1.in1 (.call (.ref f) ⟨[v], []⟩) (fun res s' => ∃ u, res = .ok (.ret u) ∧ CE X.stack X.prog X.w H s Q u s') s := by
    refine PySem.W.kla_callFunE hr1.depth of1 rfl L.co L.gen rfl ⟨c', oc, vs, t, rfl, hoc, hdc, hvc⟩ ?_
    rw [bind_one]
    refine wpAny_pure (wpAny_newFunctionEnv (fun y hy => (L.own y hy).1) (fun y hy => ?_) (fun h₁ hns hsb => ⟨I.nolimit.fresh _ hsb, ?_⟩) L.kind)
    · have e : y = (a, v) := by simpa using hy
      rw [e]; exact L.loc
    · show codeAny _ _ (.expr body (LamX.lamEnv X scope s.heap.objs.size f c')) _ _
      have kp : ∀ b o, s.heap.get? b = some o → h₁.get? b = some o := fun b o e => hsb.extBut b o (Nat.ne_of_lt (Heap.lt_size e)) (Heap.get?_push_of_some _ e)
      have J : Inv (lamC X X.A.in1.in1 s H scope f c') [] (σ.set i (some x)) H { s with heap := h₁, toks := s.toks + ([(a, v)] : List (Str × Value)).length } := lam_start hNd hNi I L hr1.hd I.ok.frames r hns kp
      refine PySem.W.kla_codeExpr (wpAny_mono ((hbody s H).run [] _ _ H Q J ht) (fun v s' hq => ?_) fun e s' hq => False.elim hq)
      obtain ⟨w', H', J', rv, q⟩ := hq
      exact ⟨_, rfl, w', H', J'.os, J'.bare, J'.base, J'.hok, rv, q⟩
  refine wpAny_call (codeAny_mono rc fun r s' hq => ?_)
  obtain ⟨u, rfl, hq⟩ := hq
  exact I.after hq
theorem keyrun_fn {k : Nat} {fd : FuncData} {ps : List Str} {sp : Sp} (F : FnG X.prog X.w X.K X.mg X.base (L2.CX X.prog X.w) k f fd ps sp) (hr : Room (k + 1) X.A) (hgd : X.A.guards = some []) (hb : Binds X.K fd ps []) : KeyRun X [] σ (.ref f) fun x H Q => sp [x] H Q fun _ _ _ => False := by
  intro pins s H x v Q _ I r h
  exact wpAny_mono (run_fg (X := inn X) (E := fun _ _ _ _ => False) F (room_in2 hr) hgd hb (passAt (W := fun _ _ _ _ => False) (fun u s' ⟨_, _, _, _, _, _, _, _, _, _, _, _, _, _, _, _, w⟩ => w.elim) _) (Inv.inn I) (.cons r .nil) h) (fun u s' ⟨y, H', J, ry, q⟩ => ⟨y, H', Inv.outn J I.ok, ry, q⟩) fun _ _ z => z
end
theorem key_nex {g : D → Fr → Out D} {C : Nat} {z : D} : ∀ (ds : List D) (ρ : Fr), keyLoop g ds ρ = .ex C z → False
  | [], ρ, h => nomatch h
  | d :: ds, ρ, h => by
    unfold keyLoop at h
    cases e : g d ρ with
    | no => rw [e] at h; cases h
    | ex _ _ => rw [e] at h; cases h
    | ok k ρ1 =>
      rw [e, Out.bindN_ok] at h
      cases e2 : keyLoop g ds ρ1 with
      | no => rw [e2] at h; cases h
      | ok _ _ => rw [e2] at h; cases h
      | ex C' z' => exact key_nex ds ρ1 e2
section
variable {tt : TTs} {X : Cx} {a : Expr} {ma : Fr → Out R} {p px pk : Pos}
theorem boot_sorted : bootBuiltins "sorted" = some (.builtin "sorted") := by decide +kernel
theorem kws_one {ke : Expr} : (backToKw p (keywordEach [⟨some "key", ke, pk⟩] X.env)).all (·.1.isSome) = true ∧ (backToKw p (keywordEach [⟨some "key", ke, pk⟩] X.env)).any (·.1.isNone) = false ∧ (backToKw p (keywordEach [⟨some "key", ke, pk⟩] X.env)).filterMap (·.1) = [Str.ofString "key"] := ⟨rfl, rfl, rfl⟩
/-- the call, its list and its key's function at hand -/
theorem sort_call {G : Gh tt} {ρ : Fr} {hs' : List Ent} {pins : List (Addr × Obj)} {σ : L2.St} {H : Hp} {s : Shared} {Q : VK} {u : Value} {x : V} {d : D} {g : Addr} {gm : D → Fr → Out D} {t : V → Hp → VK → Prop} (I : Inv X pins σ H s) (hu : X.A.units + 64 < cLine) (R : KeyRun X pins σ (.ref g) t)
    (hg : ∀ (ρ : Fr) (hs : List Ent) (H : Hp) (d : D) (x : V) (Q : VK), Sim X.K G.nx ρ hs σ H → RelD X.K (NS G ρ hs σ) H d x → FinD X.K G.nx hs σ Q (gm d ρ) → t x H Q) (ru : RelV x u) (S : Sim X.K G ρ ((.val d, some x) :: hs') σ H)
    (h : FinR X.K G hs' σ Q (match itemsD d with
    | some ds => (keyLoop gm ds ρ).bind fun ks ρ => ask (skeyM ks ds) ρ
    | none => .no)) : wpAny (model X.prog X.w) X.A (call (.builtin "sorted") [u] [(Str.ofString "key", .ref g)]) (EP X pins σ Q) X.xe s := by
  cases hi : itemsD d with
  | none => rw [hi] at h; exact h.elim
  | some ds =>
    rw [hi] at h
    exact sort_keys I (.dt (held_rel S)) hi ru R hu (key_sim hg S h)
theorem se_skey {k : Nat} {f : Addr} {fd : FuncData} {ps : List Str} {Φ : Fx} {i : Nat} {x : Str} {pf : Pos} (F : FnG X.prog X.w X.K X.mg X.base (L2.CX X.prog X.w) k f fd ps (SpF tt.ts X.K 1 (Φ.md i) (Φ.call i))) (hr : Room (k + 1) X.A) (hgd : X.A.guards = some []) (hb : Binds X.K fd ps []) (hg : Gl X x) (hm : X.mg x = some (.ref f)) (hd : (x == ("__debug__" : Str)) = false)
    (hgs : Gl X "sorted") (hms : X.mg "sorted" = none) (ha : PE X a (T tt X.K ma)) (hs : starEach [a] X.env = (false, eval a X.env) :: starEach [] X.env) :
    PE X (.Call (.Name "sorted" px) [a] [⟨some "key", .Name x pf, pk⟩] p) (T tt X.K fun ρ => keysM (fun d ρ => escM (callM Φ i [.dt d] ρ)) (escM (ma ρ))) := by
  refine ⟨fun pins s σ H Q I h => ?_⟩
  obtain ⟨G, ρ, hs', S, h⟩ := h
  refine wpAny_Call_Name_kw (ld_blt I hgs hms boot_sorted ?_ (by decide) (by decide))
  have hs1 : backTo p (starEach [a] X.env) = (false, eval a X.env) :: backTo p (starEach [] X.env) := by rw [hs]; rfl
  have ha' : PA X [a] (tCons (TD tt X.K fun ρ => escM (ma ρ)) tNil) := pa_cons (sd_esc ha) pa_nil hs
  have hkw : PK X [⟨some "key", .Name x pf, pk⟩] (tCons (tC (.ref f)) tNil) := pk_cons (pe_glob hg hm rfl hd) pk_nil
  refine PyProof.Rows.callWith_kw (thn (ha'.run p pins s σ H (fun vs H1 => ∃ d x ρ1, vs = [x] ∧ Sim X.K G ρ1 ((.val d, some x) :: hs') σ H1 ∧ FinR X.K G hs' σ Q (match itemsD d with
    | some ds => (keyLoop (fun d ρ => escM (callM Φ i [.dt d] ρ)) ds ρ1).bind fun ks ρ => ask (skeyM ks ds) ρ
    | none => .no)) I (TD.mono (TD.ask S (bind_split FinR.no h)) fun x H1 ⟨d, ρ1, S1, h1⟩ => ⟨d, x, ρ1, rfl, S1, h1⟩)) fun us s1 ⟨vs, H1, I1, r1, q1⟩ =>
      thn (hkw.run p pins s1 σ H1 (fun zs H2 => zs = [.ref f] ∧ H2 = H1) I1 ⟨rfl, rfl⟩) fun ws s2 ⟨zs, H2, I2, r2, q2⟩ => ?_) hs1 (by rw [hs1]; rfl) kws_one.1 kws_one.2.1
  rw [kws_one.2.2]
  obtain ⟨d, x, ρ1, rfl, S1, h1⟩ := q1
  obtain ⟨rfl, rfl⟩ := q2
  obtain ⟨u, rfl, ru⟩ := vals_one r1
  obtain rfl := Vals.ref1 r2
  refine sort_call I2 (by have := hr.un; omega) (fun pins' s H x v Q _ => keyrun_fn F hr hgd hb pins' s H x v Q (fun _ h => absurd h List.not_mem_nil)) (fun ρ hs H d x Q S rd hf => ?_) ru S1 h1
  cases e : callM Φ i [.dt d] ρ with
  | no => rw [e] at hf; exact hf.elim
  | ex C z =>
    rw [e] at hf
    refine call_step (tt := tt.nx) (G := G.nx) (ρ := ρ) (hs := hs) (es := [(.val d, some x)]) (rs := [.dt d]) (.cons (r := .dt d) trivial .nil) (S.push_dt rd) rfl ?_
    rw [e]
    exact hf
  | ok r ρ2 =>
    rw [e] at hf
    refine call_step (tt := tt.nx) (G := G.nx) (ρ := ρ) (hs := hs) (es := [(.val d, some x)]) (rs := [.dt d]) (.cons (r := .dt d) trivial .nil) (S.push_dt rd) rfl ?_
    rw [e]
    intro z H3 S3 a3
    have hf : FinD X.K G.nx hs σ Q (r.esc ρ2) := hf
    cases e4 : r.esc ρ2 with
    | no => rw [e4] at hf; exact hf.elim
    | ex C z => exact (esc_nex e4).elim
    | ok k ρ4 => rw [e4] at hf; exact hf z H3 (S3.esc a3 e4)
/-- sorted(a, key=lambda x: b) -/
theorem se_slam {k : Nat} {c P : Addr} {i : Nat} {x : Str} {pa pl : Pos} {b : Expr} {sc : Scope} {mb : Fr → Out R} (TB : LamX.TabB X.base X.mg c P) (hcode : X.env.code = .ref c) (hmt : (P, X.env.qual ++ "<lambda>") ∈ tt.ts) (hut : ∀ p ∈ tt.ts, p.1 = P → p.2 = X.env.qual ++ "<lambda>")
    (L : LamP X.env.scope sc x) (hNd : X.N.Nodup) (hNi : X.N[i]? = some x) (hr : Room (k + 2) X.A) (hbody : ∀ (s : Shared) (H : Hp) (f c' : Addr), PE (lamC X X.A.in1.in1 s H sc f c') b (T tt.nx X.K mb))
    (hgs : Gl X "sorted") (hms : X.mg "sorted" = none) (ha : PE X a (T tt X.K ma)) (hs : starEach [a] X.env = (false, eval a X.env) :: starEach [] X.env) :
    PE X (.Call (.Name "sorted" px) [a] [⟨some "key", .Lambda (arg1 x pa) b sc pl, pk⟩] p) (T tt X.K fun ρ => keysM (lamM i fun ρ => escM (mb ρ)) (escM (ma ρ))) := by
  refine ⟨fun pins s σ H Q I h => ?_⟩
  obtain ⟨G, ρ, hs', S, h⟩ := h
  refine wpAny_Call_Name_kw (ld_blt I hgs hms boot_sorted ?_ (by decide) (by decide))
  have hs1 : backTo p (starEach [a] X.env) = (false, eval a X.env) :: backTo p (starEach [] X.env) := by rw [hs]; rfl
  have ha' : PA X [a] (tCons (TD tt X.K fun ρ => escM (ma ρ)) tNil) := pa_cons (sd_esc ha) pa_nil hs
  refine PyProof.Rows.callWith_kw (thn (ha'.run p pins s σ H (fun vs H1 => ∃ d x ρ1, vs = [x] ∧ Sim X.K G ρ1 ((.val d, some x) :: hs') σ H1 ∧ FinR X.K G hs' σ Q (match itemsD d with
    | some ds => (keyLoop (lamM i fun ρ => escM (mb ρ)) ds ρ1).bind fun ks ρ => ask (skeyM ks ds) ρ
    | none => .no)) I (TD.mono (TD.ask S (bind_split FinR.no h)) fun x H1 ⟨d, ρ1, S1, h1⟩ => ⟨d, x, ρ1, rfl, S1, h1⟩)) fun us s1 ⟨vs, H1, I1, r1, q1⟩ => ?_) hs1 (by rw [hs1]; rfl) kws_one.1 kws_one.2.1
  obtain ⟨d, x1, ρ1, rfl, S1, h1⟩ := q1
  obtain ⟨u, rfl, ru⟩ := vals_one r1
  refine wpAny_evalAll_cons (wpAny_bind (LamX.lam_make2 I1 TB hcode hmt hut S1.tabs rfl (L.has I1.ok) fun f c' pm ctv H2 s2 I2 hex ht2 hf hfn hffr hco => ?_))
  refine wpAny_bind (wpAny_standAt (wpAny_pure (wpAny_evalAll_nil ?_)))
  rw [kws_one.2.2]
  show wpAny _ _ (call (.builtin "sorted") [u] [(Str.ofString "key", .ref f)]) _ _ _
  have S2 := S1.extn hex ht2
  have S3 := S2.rebase
  have nloc : f ≠ X.env.locals := fun z => by
    obtain ⟨m, ⟨o, es, ep, ho, hdo, _⟩, _⟩ := I2.loc
    rw [← z, hf] at ho
    cases ho
    cases hdo
  have nfs : f ∉ X.fs := fun z => by
    rcases I2.ok.stk with e | ⟨e, hfrm⟩
    · exact hffr (by rw [e]; exact z)
    · refine hffr ?_
      rw [e]
      show f ∈ List.filterMap (·.frame) (X.env :: X.outer)
      rw [List.filterMap_cons, hfrm]
      exact List.mem_cons_of_mem _ z
  have I3 : Inv X (pins ++ [(f, PySem.W.kla_obj "<lambda>" (X.env.qual ++ "<lambda>") (arg1 x pa) b sc (cloFrom X.env.cells sc.names []) pm c' ctv)]) σ H2 s2 := I2.pins_of fun q hq => by
    rcases List.mem_append.mp hq with hq | hq
    · exact I2.pin q (List.mem_append_right _ hq)
    · have e : q = (f, PySem.W.kla_obj "<lambda>" (X.env.qual ++ "<lambda>") (arg1 x pa) b sc (cloFrom X.env.cells sc.names []) pm c' ctv) := by simpa using hq
      subst e
      exact ⟨hf, hfn, nloc, nfs, fun _ z => nomatch z⟩
  refine wpAny_mono (sort_call (Q := Q) (gm := lamM i fun ρ => escM (mb ρ)) I3 (by have := hr.un; omega) (fun pins' s H x v Q hsub => keyrun_lam (tb := TD tt.nx X.K fun ρ => escM (mb ρ)) hNd hNi L hr (fun s H => sd_esc (hbody s H f c')) pins' s H x v Q (fun q hq => hsub q (List.mem_append_right _ hq))) (fun ρ hs H d x Q S rd hfd => ⟨?_, lam_sim S rd hfd⟩) ru S3 ?_) (fun v s' ⟨y, H', J, ry, q⟩ => ⟨y, H', J.unpinned, ry, q⟩) fun _ _ z => z
  · refine S.frm c' _ hco (LamX.codeO_ne) fun ⟨q, hq, ⟨ds, e1⟩, e2⟩ => ?_
    obtain ⟨b', vs, e3, e4, _⟩ := S2.sp.own q hq ds e1
    rw [e2] at e3; cases e3
    rw [hco] at e4
    unfold LamX.CodeO at e4
    cases e4
  · cases hi : itemsD d with
    | none => rw [hi] at h1; exact h1.elim
    | some ds =>
      rw [hi] at h1
      dsimp only at h1 ⊢
      cases e : (keyLoop (lamM i fun ρ => escM (mb ρ)) ds ρ1).bind fun ks ρ => ask (skeyM ks ds) ρ with
      | no => rw [e] at h1; exact h1.elim
      | ex C z =>
        cases e5 : keyLoop (lamM i fun ρ => escM (mb ρ)) ds ρ1 with
        | ex C z => exact (key_nex _ _ e5).elim
        | no => rw [e5] at e; cases e
        | ok ks ρ3 =>
          rw [e5, Out.bind_ok] at e
          cases e6 : skeyM ks ds with
          | none => rw [e6] at e; cases e
          | some r => rw [e6] at e; cases e
      | ok r ρ2 =>
        rw [e] at h1
        exact fun y H' S4 a4 => h1 y H' (by
          have S5 : Sim X.K G ρ1 hs' σ H2 := S2.drop
          exact Sim.unbase S2 (fun _ z => z) S4) a4
end
end Py
end
section
set_option Elab.async false
set_option linter.all false
set_option autoImplicit false
set_option maxRecDepth 100000
set_option maxHeartbeats 4000000
/-! An own error whose __init__ says super().__init__(x); self.f = x. -/
namespace Py
open PySem PySem.Spec PyProof.Rows L2

/-- the class at C, at D or below it; D's own base is ValueError -/
structure SupC (K : W.Frag) (C D : Addr) : Prop where
  ex : OexC K C
  sub : W.mroIn K C (.ref D) = some true
  isD : ∃ cd, W.clsIn K D = some cd
  up : W.ks_superIn K C D "__init__" = some (some (.builtin "ValueError.__init__"))
  ve : W.subIn K (.ref C) (.type "ValueError") = some true
  no : W.nsIn K cStatics "thirdparty.any" = some none
section
variable {X : Cx} {pins : List (Addr × Obj)} {σ : L2.St} {H : Hp} {s : Shared}
theorem ld_at {i : Nat} {x : Str} {v : V} {Q : Value → Shared → Prop} {E : Value → Shared → Prop} (I : Inv X pins σ H s) (hN : X.N[i]? = some x) (he : σ[i]? = some (some v)) (hv : Vis X.env.scope x) (hcd : (x == ("__classdict__" : Str)) = false) (h : ∀ u, RelV v u → Q u s) :
    wpAny (model X.prog X.w) X.A (loadName X.env x) Q E s := by
  obtain ⟨m, hn, hl⟩ := I.loc
  obtain ⟨u, ru, l⟩ := hl i x v hN he hv
  rcases l with ⟨k1, hm⟩ | ⟨k1, c, hc, hcell⟩
  · exact wpAny_loadName_local I.ok.kind k1 hn hm (h u ru)
  · rcases k1 with k1 | k1
    · exact wpAny_loadName_cell I.ok.kind k1 hc hcell (h u ru)
    · exact wpAny_loadName_free I.ok.kind k1 hc hcell (h u ru) hcd
theorem ld_super {Q : Value → Shared → Prop} {E : Value → Shared → Prop} (I : Inv X pins σ H s) (hg : Gl X "super") (hm : X.mg "super" = none) (h : Q (.type "super") s) :
    wpAny (model X.prog X.w) X.A (loadName X.env "super") Q E s := by
  obtain ⟨mb, b1, b2⟩ := I.mod.blt
  refine W.ks_loadName_global I.ok.kind hg (Calls.loadGlobal_builtin (by rw [I.ok.glob]; exact I.mod.glob.keeps I.bk) hm (by rw [I.ok.blt]; exact b1.keeps I.bk) ((b2 _ (by decide)).trans ?_) h)
  first | boot_by_name | rfl | kernel_rfl
end
section
variable {prog : Program} {w : World} {A : Around} {E : Value → Shared → Prop} {h : Heap} {g : Array GenState} {d : Drawn} {t : Nat} {os : OsState}
/-- the wrapper around ValueError.__init__, called -/
theorem call_mw {nm q : Str} {C N u e t0 : Addr} {bs bm : List Value} {hdct : Bool} {sn : List Str} {sub : List Value} {ab : Bool} {col : Option Bool} {dd : Option Addr} {k0 k1 k2 k3 k5 : Option Value} {us : List Value} {Q : Value → Shared → Prop}
    (hC : h.get? C = some (excClassObj nm q C N bs bm hdct sn sub ab col dd k0 k1 k2 k3 k5 "ValueError.__new__")) (he : h.get? e = some (W.excRec (.ref C) t0 none .none .none (.bool false))) (hu : h.get? u = some (W.kxs_mw "ValueError.__init__" e)) (hz : us.length ≤ sizeLine)
    (hq : ∀ h' t1, (∀ b o, b ≠ e → h.get? b = some o → h'.get? b = some o) → h'.get? e = some (W.excRec (.ref C) t1 none .none .none (.bool false)) → Q .none ⟨h', g, d, t, os⟩) :
    wpAny (model prog w) A (call (.ref u) us) Q E ⟨h, g, d, t, os⟩ := by
  refine wpAny_call (codeAny_of_tree ?_)
  show wpAny _ A.in1 (callAny (.ref u) ⟨us, []⟩) _ _ _
  simp only [callAny]
  refine wpAny_bind (wpAny_load hu ?_)
  have hm : (Value.type "method-wrapper" == Value.type "method" || Value.type "method-wrapper" == Value.type "builtin_function_or_method" || Value.type "method-wrapper" == Value.type "method-wrapper") = true := by decide
  simp only [W.kxs_mw, hm, if_true]
  refine W.KFB.if_so (by decide) ?_
  refine wpAny_bind (W.check_bound_init F.excBase_ValueError.toExcCallFacts hC he rfl ?_)
  refine wpAny_bind (wpAny_pure (wpAny_pure ?_))
  refine ⟨plainId_quiet F.excBase_ValueError.init.plain _, codeAny_builtin F.excBase_ValueError.initEntry ?_⟩
  exact W.exc_init_tree he hz fun h' k1 k2 _ => hq h' _ k1 k2
end
section
variable {X : Cx} {pins : List (Addr × Obj)} {σ : L2.St} {H : Hp} {s : Shared}
theorem evalArgs_pa {M : Model} {A : Around} {E : Value → Shared → Prop} {s : Shared} {f : Value} {env : Env} {e : Expr} {es : List Expr} {pos : Pos} {Q : Args → Shared → Prop} (h : wpAny M A (spliced (backTo pos (starEach (e :: es) env))) (fun vs s₁ => Q ⟨vs, []⟩ s₁) E s)
    (he : starEach (e :: es) env = (false, eval e env) :: starEach es env := by rfl) : wpAny M A (evalArgs f true (backTo pos (starEach (e :: es) env)) []) Q E s := by
  rw [he] at h ⊢
  exact Calls.evalArgs_plain h
/-- super().__init__(e), in the body of a def of D that was handed its object first -/
theorem sup_call {D C a f cda : Addr} {fd : FuncData} {of oc : Obj} {vs : Array Value} {file : Str} {tf : Tok} {ar : Arg} {body : List Stmt} {x : Str} {px : Pos} {ta : TA} {i j : Nat} {p0 p1 p2 p3 : Pos} {pl : Sem Bool} {Q : Value → Shared → Prop}
    (S : SupC X.K C D) (I : Inv X pins σ H s) (ha : H a = some (exo a C none)) (hg : Gl X "super") (hm : X.mg "super" = none)
    (hks : X.env.kindOf "super" = some .globalImplicit) (hkc : X.env.kindOf "__class__" = some .free) (hfu : X.env.func = some f) (hf : s.heap.get? f = some of) (hfd : of.data = .func fd)
    (hp : (fd.params.posonlyargs ++ fd.params.args).head? = some ar) (hco : X.env.code = .ref cda) (hcc : s.heap.get? cda = some oc) (hoc : oc.data = .fields vs) (hvs : vs[2]? = some (.str file tf))
    (hfile : ((X.prog.main.file : Str) == file) = true) (htop : (X.prog.main.scope.names.lookup ("super" : Str)).isSome = false)
    (hN0 : X.N[i]? = some ar.arg) (h0 : σ[i]? = some (some (.ref a))) (hv0 : Vis X.env.scope ar.arg) (hcd0 : (ar.arg == ("__classdict__" : Str)) = false) (hN2 : X.N[j]? = some ("__class__" : Str)) (h2 : σ[j]? = some (some (.ref D)))
    (pe : PA X [.Name x px] ta) (hta : ta σ H fun ws H1 => ws.length ≤ 1000 ∧ H1 = H)
    (hq : ∀ s', Inv X pins σ H s' → Q .none s')
    (hev : eval (.Call (.Attribute (.Call (.Name "super" p0) [] [] p1) "__init__" p2) [.Name x px] [] p3) X.env = (do
      let ov ← attributeBase (.Call (.Name "super" p0) [] [] p1) "__init__" X.env (eval (.Call (.Name "super" p0) [] [] p1) X.env)
      standAt p2.atName
      let (f, first) ← holding [ov] (getMethod ov "__init__" pl)
      callWith p3 f first (backTo p3 (starEach [.Name x px] X.env)) [])) :
    PySem.wpAt (model X.prog X.w) X.A (.func body X.env) (eval (.Call (.Attribute (.Call (.Name "super" p0) [] [] p1) "__init__" p2) [.Name x px] [] p3) X.env) Q X.xe s := by
  obtain ⟨nm, q, N', bs, bm, sn, sub, ab, col, dd, k0, k1, k2, k3, k5, hC, hbm⟩ := S.ex.cls
  obtain ⟨cdD, hD⟩ := S.isD
  have KX := I.kIn
  obtain ⟨t1, ho⟩ := exo_at I.hok ha
  obtain ⟨oD, hD1, hD2⟩ : ∃ oD, s.heap.get? D = some oD ∧ oD.data = .cls cdD := by
    unfold W.clsIn at hD
    split at hD
    · rename_i c d cd' sl ho'
      cases hD
      exact ⟨_, KX _ _ ho', rfl⟩
    · cases hD
  refine PySem.ks_wpAt_MethodCall ?_ hev
  refine PySem.ks_wpAt_super_base hks hkc (by decide) hfu hf hfd hp hco hcc hoc hvs hfile htop ?_
  refine ld_super I hg hm ⟨rfl, ?_⟩
  refine ld_at I hN2 h2 (.inr (.inr hkc)) (by decide) fun u ru => ?_
  obtain rfl : u = Value.ref D := ru
  refine ld_at I hN0 h0 hv0 hcd0 fun u ru => ?_
  obtain rfl : u = Value.ref a := ru
  obtain ⟨hh, g, d, t, os⟩ := s
  refine PySem.ks_wpAny_isType_cls hD1 hD2 ⟨rfl, ?_⟩
  refine PySem.ks_wpAny_call_super hD1 hD2 ho rfl (fun c z => by cases z) (W.looks_mroIn KX S.sub) fun h' eso k => ?_
  have I1 : Inv X pins σ H ⟨h', g, d, t, os⟩ := I.kept (t' := t) k
  have IA : W.InstAt h' a { cls := .ref C, dict := none, data := .fields #[.ref t1, .none, .none, .none, .bool false, .none] } C none := ⟨k _ _ ho, rfl, rfl, trivial⟩
  have hup := S.up
  unfold W.ks_superIn at hup
  cases hc : W.clsIn X.K C with
  | none => rw [hc] at hup; cases hup
  | some cd =>
    rw [hc] at hup
    refine W.kxs_getMethod W.kxs_ValueError eso (W.looks_opaque I1.kIn S.no) (l₀ := cd.mro) (fun A Q E s k' z => wpAny_bind ((W.looks_clsIn I1.kIn hc) A _ E s k' (wpAny_pure z))) rfl I1.kIn hup (IA.type.andThen (W.looks_subIn I1.kIn S.ve)) (W.ks_ne I1.kIn IA hc) (by decide) ?_
    have I2 : Inv X pins σ H ⟨h'.push (W.kxs_mw "ValueError.__init__" a), g, d, t + 1, os⟩ := I1.kept (t' := t + 1) fun b o z => Heap.get?_push_of_some _ z
    have I3 : Inv X ((h'.objs.size, W.kxs_mw "ValueError.__init__" a) :: pins) σ H ⟨h'.push (W.kxs_mw "ValueError.__init__" a), g, d, t + 1, os⟩ := I2.pins_of fun p hp' => by
      rcases List.mem_cons.mp hp' with rfl | hp'
      · exact ⟨Heap.get?_push_at rfl rfl, I1.hok.fresh (Nat.le_refl _), (Nat.ne_of_lt I1.lt).symm, I1.nofs (Nat.le_refl _), fun v z => by cases z⟩
      · exact I2.pin p (List.mem_append_right _ hp')
    refine W.kxs_callWith (i := "ValueError.__init__") (x := a) (by rfl) (evalArgs_pa (thn (pe.run p3 _ _ σ H _ I3 hta) fun us s2 ⟨ws, H1, I4, r4, hz, e4⟩ => ?_))
    subst e4
    have hu := (I4.pin (h'.objs.size, W.kxs_mw "ValueError.__init__" a) (List.mem_append_right _ List.mem_cons_self)).1
    refine ⟨hu, ?_⟩
    obtain ⟨t2, ho2⟩ := exo_at I4.hok ha
    have l4 := r4.length
    obtain ⟨h4, g4, d4, t4, os4⟩ := s2
    refine call_mw (us := us) (I4.kIn _ _ hC) ho2 hu (by rw [← l4, sizeLine_eq]; omega) fun h5 t5 k5' hx => ?_
    have J := I4.write (t' := t4) (x := a) (e := a) (o := exo a C none) (by rw [ha]; exact True.intro) (.inl rfl) k5' ⟨_, hx⟩ (exo_ok hx)
    have eu : upd H1 a (exo a C none) = H1 := funext fun b => by
      by_cases hb : b = a
      · subst hb; rw [upd_same, ha]
      · exact upd_ne hb
    rw [eu] at J
    exact hq _ (J.pins_of fun p hp' => J.pin p (by
      rcases List.mem_append.mp (List.mem_append_right X.pn hp') with z | z
      · exact List.mem_append_left _ z
      · exact List.mem_append_right _ (List.mem_cons_of_mem _ z)))
end
theorem ev_sup {env : Env} {x : Str} {p0 p1 p2 p3 px : Pos} (hln : (p2.endLine == p3.line) = true) :
    eval (.Call (.Attribute (.Call (.Name "super" p0) [] [] p1) "__init__" p2) [.Name x px] [] p3) env = (do
      let ov ← attributeBase (.Call (.Name "super" p0) [] [] p1) "__init__" env (eval (.Call (.Name "super" p0) [] [] p1) env)
      standAt p2.atName
      let (f, first) ← holding [ov] (getMethod ov "__init__" (do return (← importBound (.Call (.Name "super" p0) [] [] p1) env).getD true))
      callWith p3 f first (backTo p3 (starEach [.Name x px] env)) []) := by
  have hp : methodCallPos true (.Call (.Name "super" p0) [] [] p1) env p2 p3 = pure p3 := by
    unfold methodCallPos
    rw [hln]
    rfl
  show (do
    let ov ← attributeBase (.Call (.Name "super" p0) [] [] p1) "__init__" env (eval (.Call (.Name "super" p0) [] [] p1) env)
    standAt p2.atName
    methodCall (.Call (.Name "super" p0) [] [] p1) "__init__" p2 p3 env ov 1 (backTo p3 (starEach [.Name x px] env)) []) = _
  have hm : ∀ ov, methodCall (.Call (.Name "super" p0) [] [] p1) "__init__" p2 p3 env ov 1 (backTo p3 (starEach [.Name x px] env)) [] = (do
      let (f, first) ← holding [ov] (getMethod ov "__init__" (do return (← importBound (.Call (.Name "super" p0) [] [] p1) env).getD true))
      callWith p3 f first (backTo p3 (starEach [.Name x px] env)) []) := fun ov => by
    unfold methodCall
    rw [show methodCallForm 1 (backTo p3 (starEach [.Name x px] env)) [] = true from rfl]
    simp only [hp, pure_bind]
    rfl
  simp only [hm]
/-- what the __init__ is asked and gives -/
def spInit (K : W.Frag) (D : Addr) (fld : Str) : Sp := fun vs H Q _ => ∃ (a C : Addr) (v : V), vs = [.ref a, v] ∧ SupC K C D ∧ W.findIn K (.ref C) fld = some none ∧ H a = some (exo a C none) ∧ ∀ dx, H dx = none → dx ≠ a → Q .non (upd (upd H dx (exd dx [(fld, v)])) a (exo a C (some dx)))
abbrev initBody (fld : Str) (p0 p1 p2 p3 p4 q0 q1 q2 q3 px : Pos) : List Stmt :=
  [.Expr (.Call (.Attribute (.Call (.Name "super" p0) [] [] p1) "__init__" p2) [.Name "value" px] [] p3) p4, .Assign [.Attribute (.Name "self" q0) fld q1] (.Name "value" q2) q3]
abbrev scInit (l : List (Str × NameKind)) : Scope := { kind := .function, names := l, isGenerator := false, isCoroutine := false }
abbrev slInit : List (Str × NameKind) := [("self", .local), ("value", .local), ("__class__", .free), ("super", .globalImplicit)]
theorem init_ok {CX : CXT} {P : Program} {w : World} {K : W.Frag} {mg : Str → Option Value} {base : Heap} {k : Nat} {fI D cc cda : Addr} {name qual fld file : Str} {params : Arguments} {ar : Arg} {l : List (Str × NameKind)} {dV kV doc pm ct oc cl ccl : Value} {an od cld cdd : Option Addr}
    {osl csl ccs : Array (Option Value)} {vs : Array Value} {tf : Tok} {p0 p1 p2 p3 p4 q0 q1 q2 q3 px : Pos}
    (lk : K.lookup fI = some ⟨oc, od, .func (W.fnX name qual params (initBody fld p0 p1 p2 p3 p4 q0 q1 q2 q3 px) (scInit l) [("__class__", cc)] dV kV doc pm an (.ref cda) ct), osl⟩)
    (hl : l = slInit) (hcd : W.codeIn K (.ref cda) qual = true) (hcell : K.lookup cc = some ⟨cl, cld, .cell (some (.ref D)), csl⟩) (hcode : K.lookup cda = some ⟨ccl, cdd, .fields vs, ccs⟩) (hvs : vs[2]? = some (.str file tf)) (hfile : ((P.main.file : Str) == file) = true)
    (htop : (P.main.scope.names.lookup ("super" : Str)).isSome = false) (hp : (params.posonlyargs ++ params.args).head? = some ar) (har : ar.arg = "self") (hmg : mg "super" = none) (hln : (p2.endLine == p3.line) = true) :
    FnOk P w K mg base CX (k + 1) fI (W.fnX name qual params (initBody fld p0 p1 p2 p3 p4 q0 q1 q2 q3 px) (scInit l) [("__class__", cc)] dV kV doc pm an (.ref cda) ct) ["self", "value"] (spInit K D fld) := by
  subst hl
  have S : NdefX.NScope ["self", "value", "__class__"] ["self", "value"] ["__class__"] (scInit slInit) := NdefX.nscope_by (by decide +kernel)
  refine ⟨fun vs H Q E ⟨_, _, _, e, _⟩ => by rw [e]; rfl, fun A outer s H args us vs Q E hr e0 hb rv hsp => ?_⟩
  obtain ⟨a, C, v, rfl, SC, hno, ha, q⟩ := hsp
  have KX : K.In s.heap := e0.mod.kin.keeps fun b o e => (e0.bs b o e).1
  have lim : s.heap.NoLimit := e0.mod.nolimit.keeps fun b o e => (e0.bs b o e).1
  refine codeAny_call_function hr.depth (KX _ _ lk) rfl rfl rfl rfl (W.codeRec_of KX hcd) (hb _ _ _ _ ?_)
  refine wpAny_newFunctionEnv S.nocell (fun ⟨n, _⟩ hy => S.par n (List.of_mem_zip hy).1) (fun h₁ hns hsb => ⟨lim.fresh _ hsb, ?_⟩) S.kind
  let F : NdefX.NF := ⟨name, qual, params, initBody fld p0 p1 p2 p3 p4 q0 q1 q2 q3 px, scInit slInit, [("__class__", cc)], cda⟩
  show codeAny _ _ (.func F.body (NdefX.envF F fI s.heap.objs.size)) _ _
  have kp : ∀ b o, s.heap.get? b = some o → h₁.get? b = some o := fun b o e => hsb.extBut b o (Nat.ne_of_lt (Heap.lt_size e)) (Heap.get?_push_of_some _ e)
  have hcc : s.heap.get? cc = some ⟨cl, cld, .cell (some (.ref D)), csl⟩ := KX _ _ hcell
  have look : ∀ y c, F.cl.lookup y = some c → y = "__class__" ∧ c = cc := fun y c e => by
    have m := PySem.mem_of_lookup e
    have m' : (y, c) = (("__class__" : Str), cc) := List.mem_singleton.mp m
    exact ⟨congrArg Prod.fst m', congrArg Prod.snd m'⟩
  have CA : NdefX.CellsAt F.cl ["__class__"] [some (.ref D)] s.heap H := ⟨rfl, fun y c e => by
      obtain ⟨_, rfl⟩ := look y c e
      exact ⟨(e0.bs _ _ (e0.mod.kin _ _ hcell)).2, _, _, hcc, rfl⟩, fun x y c e1 e2 => by rw [(look x c e1).1, (look y c e2).1], fun i y e => by
      cases i with
      | zero =>
        have : y = "__class__" := by simpa using e.symm
        subst this
        refine ⟨cc, rfl, fun v e => ?_⟩
        have : v = .ref D := by simpa using e.symm
        subst this
        exact ⟨.ref D, rfl, _, hcc, rfl⟩
      | succ i => simp at e⟩
  have I := NdefX.inv_startN (CX := CX) (P := P) (w := w) (K := K) (mg := mg) (base := base) (N := ["self", "value", "__class__"]) (F := F) (f := fI) (A := A) (outer := outer) (E := E) (tk := s.toks + ((["self", "value"] : List Str).zip us).length) S hr.hd e0 rfl rv CA hns kp
  let X : Cx := NdefX.ncx CX P w K mg base ["self", "value", "__class__"] F fI A outer s H E
  have pv : PE X (.Name "value" px) (tVar 1) := pe_var rfl (.inl rfl)
  refine PySem.ks_codeAny_funcAt ?_
  refine PySem.ks_wpAt_execs_cons (PySem.ks_wpAt_Expr_any ?_)
  have KX1 : K.In h₁ := fun b o e => kp b o (KX b o e)
  refine sup_call (X := X) (i := 0) (j := 2) (a := a) (C := C) (D := D) (ar := ar) SC I ha rfl hmg rfl rfl rfl (KX1 _ _ lk) rfl hp rfl (KX1 _ _ hcode) rfl hvs hfile htop (by rw [har]; rfl) rfl (by rw [har]; exact .inl rfl) (by rw [har]; decide) rfl rfl (pa_cons pv pa_nil) ⟨v, rfl, by show 1 ≤ 1000; decide, rfl⟩ (fun s' I' => ?_) (ev_sup hln)
  refine PySem.wpAt_of_wpAny ?_
  have st : PSs X [.Assign [.Attribute (.Name "self" q0) fld q1] (.Name "value" q2) q3] (tOst X.K fld (tVar 0) (tVar 1)) := pss_one (ps_ost (pe_var rfl (.inl rfl)) (pe_var rfl (.inl rfl)))
  refine wpAny_mono (st.run [] s' _ H { nx := fun _ H' => Q .non H', rt := Q } I' ?_) (fun fl s2 hs => ?_) fun e s2 hs => hs
  · exact ⟨v, rfl, .ref a, rfl, a, C, rfl, SC.ex, hno, .inl ⟨ha, fun dx hd hne => q dx hd hne⟩⟩
  · cases fl with
    | ret u =>
      obtain ⟨v', σ', H', J, rv', q'⟩ := hs
      exact ⟨v', H', J.os, J.bare, J.base, J.hok, rv', q'⟩
    | next =>
      obtain ⟨σ', H', J, q'⟩ := hs
      exact ⟨V.non, H', J.os, J.bare, J.base, J.hok, rfl, q'⟩
    | brk => obtain ⟨_, _, _, q'⟩ := hs; exact False.elim q'
    | cont => obtain ⟨_, _, _, q'⟩ := hs; exact False.elim q'
end Py
end
section
set_option Elab.async false
set_option linter.all false
set_option autoImplicit false
set_option maxRecDepth 100000
set_option maxHeartbeats 4000000
/-! An error that is caught and kept: told of by the heap from then on. -/
namespace Py
open PySem PySem.Spec PyProof.Rows L2

theorem exv_ok {P : Program} {w : World} {H : Hp} {h : Heap} {a : Addr} {cls : Value} {d : Option Addr} {ob : Obj} {ws : Array Value} (e : h.get? a = some ob) (z : Zc cls d ob) (hd : ob.data = .fields ws) : ObjOk P w H h a (exv a cls d) :=
  ⟨⟨ob, e, z, ws, hd⟩, ⟨ob, e⟩, fun _ _ ⟨o, q, z, r⟩ k => ⟨o, k _ q, z, r⟩⟩
theorem exv_at {P : Program} {w : World} {H : Hp} {h : Heap} {a : Addr} {cls : Value} {d : Option Addr} (hok : HOk P w H h) (e : H a = some (exv a cls d)) : ∃ ob, h.get? a = some ob ∧ Zc cls d ob ∧ ∃ ws, ob.data = .fields ws := (hok a _ e).1
section
variable {X : Cx} {pins : List (Addr × Obj)} {σ : L2.St} {H : Hp} {s : Shared}
/-- an untracked object, new since the entry, is tracked from now on -/
theorem inv_track {e : Addr} {o : HO} {ob : Obj} {ws : Array Value} (I : Inv X pins σ H s) (he : s.heap.get? e = some ob) (hd : ob.data = .fields ws) (hn : H e = none) (h0 : X.s_0.heap.get? e = none) (hL : e ≠ X.env.locals) (hp : ∀ p ∈ X.pn ++ pins, p.1 ≠ e)
    (new : ObjOk X.prog X.w (upd H e o) s.heap e o) : Inv X pins σ (upd H e o) s := by
  have ne0 : ∀ b u, X.s_0.heap.get? b = some u → b ≠ e := fun b u q z => by rw [z, h0] at q; cases q
  have neC : ∀ x c, X.env.cells.lookup x = some c → c ≠ e := fun x c q z => by
    obtain ⟨v, oc, q1, q2⟩ := I.cell x c q
    rw [z, he] at q1; cases q1
    rw [hd] at q2; cases q2
  refine ⟨I.ok, I.os, I.bare, ⟨I.base.keep, I.base.slot, fun b u q n hx => ?_, I.base.there, fun b xs q => ?_, fun b u v q => ?_, fun b ps q => ?_⟩, I.loc, I.cell, ?_, fun x c q => ?_, fun p q => ?_, fun b u q => ?_, I.len⟩
  · rw [upd_ne (ne0 b u q)]; exact I.base.free b u q n hx
  · have q1 := I.base.tups b xs q
    rw [upd_ne (ne_of_none q1 hn)]; exact q1
  · have q1 := I.base.frzs b u v q
    rw [upd_ne (ne_of_none q1 hn)]; exact q1
  · obtain ⟨m, q1⟩ := I.base.tbls b ps q
    exact ⟨m, by rw [upd_ne (ne_of_none q1 hn)]; exact q1⟩
  · rw [upd_ne (Ne.symm hL)]; exact I.free
  · rw [upd_ne (neC x c q)]; exact I.freeC x c q
  · obtain ⟨p1, p2, p3⟩ := I.pin p q
    exact ⟨p1, by rw [upd_ne (hp p q)]; exact p2, p3⟩
  · by_cases hb : b = e
    · subst hb
      rw [upd_same] at q; cases q
      exact new
    · rw [upd_ne hb] at q
      exact (I.hok b u q).stay (fun c v _ z => z) (fun c z => by rw [upd_ne (ne_of_none z hn)]; exact z) fun c xs z => by rw [upd_ne (ne_of_none z hn)]; exact z
end
/-- what a try asks of an error: it is of the clause's class, and the suite goes on to the end -/
def wHr (K : W.Frag) (c : Value) (i : Nat) (ts : Addr → Value → Option Addr → TS) (D : Ends) : WX := fun cls d σ H => W.exmOne K cls c = some true ∧
  ∀ e, H e = none → ts e cls d { nx := fun σ' H' => H' e = none → D.nx (σ'.set i none) (upd H' e (exv e cls d)), rt := fun _ _ => False } (σ.set i (some (.ref e))) H
section
variable {X : Cx} {x n : Str} {c : Value} {i : Nat} {body suite : List Stmt} {b₀ : Stmt} {np pos pos' : Pos} {tb : WX → TS} {ts : Addr → Value → Option Addr → TS}
/-- try: body; except x as n: suite; the error is kept -/
theorem ps_try_keep (hs : X.stack = X.env :: X.outer) (hf : X.env.frame = some X.env.locals) (hN : X.N.Nodup) (hi : X.N[i]? = some n) (hln : X.env.kindOf n = some .local) (hc : Names X x c) (hex : X.ex = [])
    (hb : ∀ (W : WX) (pn : List (Addr × Obj)) (xe : Value → Shared → Prop), Takes (X.tr pn xe) W → PassesOwn (model X.prog X.w) X.A X.env xe → PSs (X.tr pn xe) body (tb W))
    (hsu : ∀ (e : Addr) (ob : Obj) (cls : Value) (d : Option Addr) (pn : List (Addr × Obj)), PSs (X.suite e ((e, ob) :: pn)) (b₀ :: suite) (ts e cls d)) :
    PS X (.Try body [.ExceptHandler (some (.Name x np)) (some n) (b₀ :: suite) pos'] [] [] pos) (fun D σ H => tb (wHr X.K c i ts D) D σ H) := by
  refine ⟨fun pins s σ H D I h => ?_⟩
  have ok := I.ok
  have hfs : X.A.frames = some (X.env :: X.outer) := ok.frames.trans (congrArg some hs)
  have hlo : Loc X.env.scope n := .inl hln
  refine wpAny_Try_except ?_
  refine wpAny_mono ((hb (wHr X.K c i ts D) (X.pn ++ pins) (fun v s₁ => wpAny (model X.prog X.w) X.A (noteFrame v X.env) (fun _ s₂ => wpAny (model X.prog X.w) X.A (setFlight v none) (fun _ s₃ =>
    wpAny (model X.prog X.w) X.A (handleBy v X.env [.ExceptHandler (some (.Name x np)) (some n) (b₀ :: suite) pos']) (SP X pins D) X.xe s₃) X.xe s₂) X.xe s₁) (fun u s' xx => ?_) PassesOwn.looking).run [] s σ H D (I.toTry _) h) (fun f s1 q => ?_) (fun v s1 q => q)
  · obtain ⟨e, B, sI, pins', σ', H', cls, d, rfl, J', nb, up, sky, na, os, ag, hm, hyes⟩ := xx
    have J : Inv X pins σ' H' sI := J'.ofTry ok
    have skyE : Sky B (X.env :: X.outer) e (Zc cls d) X.env.locals s'.heap := hs ▸ sky
    show wpAny (model X.prog X.w) X.A (noteFrame (.ref e) X.env) _ _ _
    refine Sky.land Zc.steady hfs hf skyE fun h3 fl3 up3 => ?_
    have J3 : Inv X pins σ' H' { s' with heap := h3 } := J.landed nb fl3.1 (up.trans up3) os ag
    obtain ⟨ob3, ws3, he3, hz3, hd3⟩ := fl3.there
    have off : ∀ {hp : Heap} {o : Obj} {ws : Array Value}, hp.FunFrames B (X.env :: X.outer) → hp.get? e = some o → o.data = .fields ws → e ∉ frs (X.env :: X.outer) := fun {hp o ws} ff q dd hm => by
      obtain ⟨_, o', q', hnf⟩ := ff.mem hm
      rw [q] at q'; cases q'
      exact hnf _ dd
    have nfr := off fl3.2.2.1 he3 hd3
    have nL : e ≠ X.env.locals := fun z => nfr (List.mem_filterMap.mpr ⟨X.env, List.mem_cons_self, hf.trans (congrArg some z.symm)⟩)
    have nF : e ∉ X.fs := fun hm => by
      obtain ⟨v, hv, q⟩ := List.mem_filterMap.mp hm
      exact nfr (List.mem_filterMap.mpr ⟨v, List.mem_cons_of_mem _ hv, q⟩)
    -- it was not there before
    have nI : sI.heap.get? e = none := by
      cases q : sI.heap.get? e with
      | none => rfl
      | some o =>
        have q1 := nb e o q (by rw [hs]; exact nfr)
        rw [fl3.2.1] at q1; cases q1
    have n0 : X.s_0.heap.get? e = none := by
      cases q : X.s_0.heap.get? e with
      | none => rfl
      | some o =>
        obtain ⟨o', q1⟩ := J.base.there e o q (by rw [hex]; exact List.not_mem_nil)
        rw [nI] at q1; cases q1
    have npin : ∀ p ∈ X.pn ++ pins, p.1 ≠ e := fun p hp z => by
      have q := (J.pin p hp).1
      rw [z, nI] at q; cases q
    have S3 := J3.suite he3 hd3 na nL nF
    refine wpAny_handleBy_cons (codeAny_handlers_test ?_) (by intro q; cases q)
    have LT : W.Looks (model X.prog X.w) h3 (typeOf (.ref e)) cls := fun A Q E s k q => wpAny_typeOf_ref (k _ _ he3) (by rw [hz3.1]; exact q)
    have LM := W.exm_one (M := model X.prog X.w) J3.kIn LT hm
    have test : ∀ {Q : Value → Shared → Prop} {E : Value → Shared → Prop}, Q c { s' with heap := h3 } → wpAny (model X.prog X.w) (X.A.mark (some (.ref e))) (eval (.Name x np) X.env) Q E { s' with heap := h3 } := fun {Q E} q => by
      obtain ⟨g1, g2, g3 | ⟨g3, g4, g5⟩⟩ := hc
      · exact ld_glob (X := X.suite e ((e, ob3) :: (X.pn ++ pins))) S3 g1 g3 q g2
      · exact ld_blt (X := X.suite e ((e, ob3) :: (X.pn ++ pins))) S3 g1 g3 g4 q g5 g2
    refine test (LM.here ?_)
    refine codeAny_handlers_suite_as ?_
    refine HandSPX.lands_againZ fl3 fun h4 fl4 up4 => ?_
    have J4 : Inv X pins σ' H' { s' with heap := h4 } := J.landed nb fl4.1 ((up.trans up3).trans up4) os ag
    obtain ⟨ob4, ws4, he4, hz4, hd4⟩ := fl4.there
    have S4 := J4.suite he4 hd4 na nL nF
    refine store_ok (X := X.suite e ((e, ob4) :: (X.pn ++ pins))) (v := .ref e) S4 hN hi hlo rfl (fun s5 S5 => ?_) (.inr hln)
    refine wpAny_mono ((hsu e ob4 cls d (X.pn ++ pins)).run [] s5 _ H' _ S5 (hyes e na)) (fun f s6 q => ?_) (fun _ _ z => False.elim z)
    cases f with
    | next =>
      obtain ⟨σ6, H6, S6, q6⟩ := q
      have p6 := S6.pin (e, ob4) (List.mem_append_left _ List.mem_cons_self)
      have J6 : Inv X pins σ6 H6 s6 := S6.unsuite ok
      have J7 := inv_track (o := exv e cls d) J6 p6.1 hd4 p6.2.1 n0 nL npin (exv_ok p6.1 hz4 hd4)
      exact gone_ok J7 hN hi hln fun s7 J8 => ⟨_, _, J8, q6 p6.2.1⟩
    | brk => obtain ⟨_, _, _, z⟩ := q; exact False.elim z
    | cont => obtain ⟨_, _, _, z⟩ := q; exact False.elim z
    | ret u => obtain ⟨_, _, _, _, _, z⟩ := q; exact False.elim z
  · cases f with
    | next =>
      obtain ⟨σ1, H1, I1, q1⟩ := q
      exact wpAny_execs_nil ⟨σ1, H1, I1.ofTry ok, q1⟩
    | brk =>
      obtain ⟨σ1, H1, I1, q1⟩ := q
      exact ⟨σ1, H1, I1.ofTry ok, q1⟩
    | cont =>
      obtain ⟨σ1, H1, I1, q1⟩ := q
      exact ⟨σ1, H1, I1.ofTry ok, q1⟩
    | ret u =>
      obtain ⟨v1, σ1, H1, I1, r1, q1⟩ := q
      exact ⟨v1, σ1, H1, I1.ofTry ok, r1, q1⟩
end
end Py
end
section
set_option Elab.async false
set_option linter.all false
set_option autoImplicit false
set_option maxRecDepth 100000
set_option maxHeartbeats 4000000
/-! _law_heard(lambda: body): what the body gives, or the error that it raises. -/
namespace Py
open PySem PySem.Spec PyProof.Rows L2 LamX

section
variable {X : Cx} {pins : List (Addr × Obj)} {σ : L2.St} {H : Hp} {s : Shared}
/-- the lambda called by the def that got it, where the state of that def at the call is told -/
theorem pe_actS {CXg : CXT} {Eg : XK} {Ng : List Str} {qg : Str} {sg : Scope} {g f c' : Addr} {cdg pm ctv : Value} {params : Arguments} {body : Expr} {scope : Scope} {k i : Nat} {a : Str} {pn : List (Addr × Obj)} {xe : Value → Shared → Prop} {Wx : WX} {t : XK → TE} {p1 p2 : Pos}
    (I : Inv X pins σ H s) (L : LamS X.env.scope scope) (hf : s.heap.get? f = some (W.kla_obj "<lambda>" (X.env.qual ++ "<lambda>") params body scope (cloFrom X.env.cells scope.names []) pm c' ctv)) (hfn : H f = none) (hfr : f ∉ frs X.stack)
    (hbind : bindArgs (W.kla_fn "<lambda>" (X.env.qual ++ "<lambda>") params body scope (cloFrom X.env.cells scope.names []) pm (.ref c') ctv) ⟨[], []⟩ = pure [])
    (tk : Takes ((cxOf CXg X.prog X.w X.K X.mg X.base Ng qg sg g cdg X.A X.stack s H Eg).tr pn xe) Wx) (hr : Room (k + 1) (X.A.deeper (envOfC qg sg s.heap.objs.size g cdg)))
    (hgd : X.A.guards = some []) (hbody : ∀ (A : Around) (outer : List Env) (s : Shared) (H : Hp) (E : XK), A.guards = some [] → Room k (A.deeper (lamEnv X scope s.heap.objs.size f c')) → PE (lamCx X A outer s H E scope f c') body (t E))
    (hN : Ng[i]? = some a) (hv : Vis sg a) (hd : (a == ("__debug__" : Str)) = false := by decide) (hcd : (a == ("__classdict__" : Str)) = false := by decide) :
    PE ((cxOf CXg X.prog X.w X.K X.mg X.base Ng qg sg g cdg X.A X.stack s H Eg).tr pn xe) (.Call (.Name a p1) [] [] p2)
      (fun σZ HZ Q => ∃ E : XK, (∀ cls d H', E cls d H' → Wx cls d σZ H') ∧ σZ[i]? = some (some (.ref f)) ∧ HZ c' = some (CodeO c' (X.env.qual ++ "<lambda>")) ∧ t E σ HZ Q) := by
  refine ⟨fun pZ sZ σZ HZ Q IZ ⟨E, hW, hs, hc, ht⟩ => ?_⟩
  refine wpAny_Call_Name_kw (thn ((pe_var (pos := p1) (i := i) hN hv hd hcd).run pZ sZ σZ HZ (fun v H1 => v = .ref f ∧ H1 = HZ) IZ ⟨.ref f, hs, rfl, rfl⟩) fun u s1 ⟨v, H1, I1, r1, ev, eH⟩ => ?_)
  subst ev eH
  obtain rfl : u = Value.ref f := r1
  have hf1 : s1.heap.get? f = some (W.kla_obj "<lambda>" (X.env.qual ++ "<lambda>") params body scope (cloFrom X.env.cells scope.names []) pm c' ctv) := I1.base.keep f _ hf hfn hfr (fun z => nomatch (show f ∈ ([] : List Addr) from z))
  refine W.callWith_F0 ⟨_, _, _, _, hf1⟩ ?_
  have un : Un (frs X.stack) [] H H1 s.heap s1.heap := I1.base
  obtain ⟨⟨oc, vs, tk1, hoc, hdc, hvc⟩, _, _⟩ := I1.hok c' _ hc
  have rc : codeAny (model X.prog X.w) (X.A.deeper (envOfC qg sg s.heap.objs.size g cdg)) (.call (.ref f) ⟨[], []⟩) (CR (L2.CX X.prog X.w) (envOfC qg sg s.heap.objs.size g cdg :: X.stack) X.prog X.w H1 s1 Q E) s1 := by
    refine W.kla_callFunE hr.depth hf1 rfl L.co L.gen rfl ⟨c', oc, vs, tk1, rfl, hoc, hdc, hvc⟩ ?_
    rw [hbind]
    refine wpAny_pure (wpAny_newFunctionEnv (fun y hy => (L.own y hy).2) (fun y hy => nomatch hy) (fun h₁ hns hsb => ⟨I1.nolimit.fresh _ hsb, ?_⟩) L.kind)
    show codeAny _ _ (.expr body (lamEnv X scope s1.heap.objs.size f c')) _ _
    have kp : ∀ b o, s1.heap.get? b = some o → h₁.get? b = some o := fun b o e => hsb.extBut b o (Nat.ne_of_lt (Heap.lt_size e)) (Heap.get?_push_of_some _ e)
    have J := lam_start2 (tk := s1.toks + ([] : List (Str × Value)).length) (A := X.A.deeper (envOfC qg sg s.heap.objs.size g cdg)) (outer := envOfC qg sg s.heap.objs.size g cdg :: X.stack) (E := E) (f := f) (c' := c') I L I1.env0 hr.hd un hns kp
    refine W.kla_codeExpr (wpAny_mono ((hbody (X.A.deeper (envOfC qg sg s.heap.objs.size g cdg)) _ s1 H1 E hgd (hr.deeper _)).run [] _ _ H1 Q J ht) (fun v s' q => ?_) fun e s' q => q)
    obtain ⟨w', H', J', rv, q'⟩ := q
    exact ⟨w', H', J'.os, J'.bare, J'.base, J'.hok, rv, q'⟩
  refine wpAny_call (codeAny_mono rc fun r s' q => ?_)
  cases r with
  | error e => exact tk e s' (XE.of_call I1 hW q)
  | ok fl =>
    cases fl with
    | ret u => exact I1.after q
    | next => exact False.elim q
    | brk => exact False.elim q
    | cont => exact False.elim q
end
abbrev nHeard : List Str := ["call", "caught", "back", "error"]
abbrev scHeard : Scope := { kind := .function, names := [("call", .local), ("caught", .local), ("back", .local), ("error", .local), ("FailsError", .globalImplicit)], isGenerator := false, isCoroutine := false }
abbrev bHeard (p1 p2 p3 p4 p5 p6 p7 q1 q2 q3 q4 r1 r2 r3 r4 r5 r6 t1 t2 t3 t4 : Pos) : List Stmt :=
  [.Assign [.Tuple [.Name "caught" p1, .Name "back" p2] 0 p3] (.Tuple [.Constant .none 0 p4, .Constant .none 0 p5] 0 p6) p7,
   .Try [.Assign [.Name "back" q1] (.Call (.Name "call" q2) [] [] q3) q4] [.ExceptHandler (some (.Name "FailsError" r1)) (some "error") [.Assign [.Name "caught" r2] (.Name "error" r3) r4] r5] [] [] r6,
   .Return (some (.Tuple [.Name "caught" t1, .Name "back" t2] 0 t3)) t4]
theorem heard_hw {env : Env} (hk : env.scope.kind = .function) (h1 : env.kindOf "caught" = some .local) (h2 : env.kindOf "back" = some .local) (p1 p2 p3 p4 p5 p6 : Pos) : swappedStores [.Tuple [.Name "caught" p1, .Name "back" p2] 0 p3] (.Tuple [.Constant .none 0 p4, .Constant .none 0 p5] 0 p6) env = pure none := by
  have hb : env.blockKind = .function := by unfold Env.blockKind; rw [hk]; rfl
  have hf : ([Expr.Constant Const.none 0 p4, Expr.Constant Const.none 0 p5].all (foldedForSure 8)) = true := rfl
  unfold swappedStores
  simp only [hb, h1, h2, List.length_cons, List.length_nil, List.any_cons, List.any_nil, List.head?_cons, Option.map_some, Option.getD_some, Expr.pos, List.filterMap_cons, List.filterMap_nil, hf]
  cases h : (p2.line == p1.line) with
  | true =>
    simp
    first | done | (split <;> rfl)
  | false =>
    simp
    first | done | (split <;> rfl)
theorem heard_hs {env : Env} (p1 p2 p3 p4 p5 p6 : Pos) (l : Nat) : swapsWithSole [.Tuple [.Name "caught" p1, .Name "back" p2] 0 p3] (.Tuple [.Constant .none 0 p4, .Constant .none 0 p5] 0 p6) l env = pure false := by rfl
/-- its reading: t is the lambda's body's, by what is wished of its errors -/
def tHeard (tt : List (Addr × Str)) (K : W.Frag) (CS : Addr) (t : XK → TE) : TE := fun σ H Q => Tabs tt H ∧ ∀ H1, ExtN H H1 → Tabs tt H1 →
  t (fun cls d H' => W.exmOne K cls (.ref CS) = some true ∧ ∀ e, H' e = none → ∀ p, upd H' e (exv e cls d) p = none → Q (.ref p) (upd (upd H' e (exv e cls d)) p (.tup [.ref e, .non]))) σ H1
    (fun v H' => ∀ p, H' p = none → Q (.ref p) (upd H' p (.tup [.non, v])))
section
variable {X : Cx}
theorem pe_heard {tt : List (Addr × Str)} {g CS c P : Addr} {k : Nat} {pg : Arguments} {sg : Scope} {bg : List Stmt} {dV kV doc pm cdv ct oc : Value} {an od : Option Addr} {osl : Array (Option Value)} {params : Arguments} {body : Expr} {scope : Scope} {t : XK → TE} {p lpos pos : Pos}
    {p1 p2 p3 p4 p5 p6 p7 q1 q2 q3 q4 r1 r2 r3 r4 r5 r6 t1 t2 t3 t4 : Pos} (hg : Gl X "_law_heard") (hm : X.mg "_law_heard" = some (.ref g)) (hk : W.keepIn X.K (.ref g) = true) (hfe : X.mg "FailsError" = some (.ref CS))
    (lk : X.K.lookup g = some ⟨oc, od, .func (W.fnOf "_law_heard" "_law_heard" pg bg sg dV kV doc pm an cdv ct), osl⟩) (esg : sg = scHeard) (ebg : bg = bHeard p1 p2 p3 p4 p5 p6 p7 q1 q2 q3 q4 r1 r2 r3 r4 r5 r6 t1 t2 t3 t4)
    (hcg : W.codeIn X.K cdv "_law_heard" = true) (hb : L2.Binds X.K (W.fnOf "_law_heard" "_law_heard" pg bg sg dV kV doc pm an cdv ct) ["call"] [])
    (TB : TabB X.base X.mg c P) (hcode : X.env.code = .ref c) (hmT : (P, X.env.qual ++ "<lambda>") ∈ tt) (hu : ∀ p ∈ tt, p.1 = P → p.2 = X.env.qual ++ "<lambda>") (hr : Room (k + 2) X.A) (L : LamS X.env.scope scope) (hdef : defaultsOf params X.env = ([], []))
    (hbind : ∀ (q : Str) (cl : List (Str × Addr)) (pm cv ctv : Value), bindArgs (W.kla_fn "<lambda>" q params body scope cl pm cv ctv) ⟨[], []⟩ = pure [])
    (hgd : X.A.guards = some []) (hbody : ∀ (A : Around) (outer : List Env) (s : Shared) (H : Hp) (E : XK) (f c' : Addr), A.guards = some [] → Room k (A.deeper (lamEnv X scope s.heap.objs.size f c')) → PE (lamCx X A outer s H E scope f c') body (t E)) :
    PE X (.Call (.Name "_law_heard" p) [.Lambda params body scope lpos] [] pos) (tHeard tt X.K CS t) := by
  subst esg ebg
  refine ⟨fun pins s σ H Q I ⟨hT, h⟩ => ?_⟩
  refine wpAny_Call_Name_kw (ld_glob I hg hm ?_ (by decide))
  refine W.callWith_K (h₀ := X.base) I.ok.mod.kin hk ?_ (by rfl) (by rfl)
  show wpAny _ _ (spliced ((false, eval (.Lambda params body scope lpos) X.env) :: backTo pos (starEach [] X.env))) _ _ s
  refine Calls.spliced_cons (lam_make2 I TB hcode hmT hu hT hdef (L.has I.ok) fun f c' pm' ctv H1 s' I1 eN T1 hf hfn hfr hco => ?_)
  refine Calls.spliced_nil ⟨I1.kIn, ?_⟩
  have S : FnScope nHeard ["call"] scHeard := C8.fnScope_by (by decide +kernel)
  have h1 := h H1 eN T1
  have rc : codeAny (model X.prog X.w) X.A (.call (.ref g) ⟨[.ref f], []⟩) (CR C8.CX0 X.stack X.prog X.w H1 s' Q C8.E0) s' := by
    refine run_ofS (N := nHeard) (ps := ["call"]) (us := [.ref f]) (vs := [.ref f]) lk hcg S hr I1.env0 (hb s' [.ref f] I1.kIn rfl) (.cons rfl .nil) rfl fun hr' => ?_
    have nd : (nHeard : List Str).Nodup := by decide +kernel
    let Z : Cx := (cxOf C8.CX0 X.prog X.w X.K X.mg X.base nHeard "_law_heard" scHeard g cdv X.A X.stack s' H1 C8.E0).nox
    have act := fun (W : WX) (pn : List (Addr × Obj)) (xe : Value → Shared → Prop) (tk : Takes (Z.tr pn xe) W) => pe_actS (i := 0) (a := "call") (p1 := q2) (p2 := q3) (Wx := W) (pn := pn) (xe := xe) (CXg := C8.CX0) (Eg := C8.E0) (Ng := nHeard) (qg := "_law_heard") (sg := scHeard) (g := g) (cdg := cdv) (t := t) I1 L hf hfn hfr (hbind _ _ _ _ _) tk hr' hgd (fun A outer s H E hg2 hr2 => hbody A outer s H E f c' hg2 hr2) rfl (.inl rfl)
    have b1 : PS Z (.Assign [.Tuple [.Name "caught" p1, .Name "back" p2] 0 p3] (.Tuple [.Constant .none 0 p4, .Constant .none 0 p5] 0 p6) p7) (tAsg (tTup _) (gTup X.K 2 (gNames [1, 2]))) :=
      ps_asg (pe_tup (pa_cons pe_non (pa_cons pe_non pa_nil))) (sg_row (X := Z) (p := p3) (k := 0) rfl nd (ts := [(1, "caught", p1), (2, "back", p2)]) (fun t ht => by
        rcases List.mem_cons.mp ht with rfl | ht
        · exact ⟨rfl, .inl rfl, .inr rfl⟩
        · rcases List.mem_cons.mp ht with rfl | ht
          · exact ⟨rfl, .inl rfl, .inr rfl⟩
          · exact nomatch ht)) (heard_hs ..) (heard_hw rfl rfl rfl ..)
    have b2 := ps_try_keep (X := Z) (x := "FailsError") (n := "error") (c := .ref CS) (i := 3) (np := r1) (pos := r6) (pos' := r5) (body := [.Assign [.Name "back" q1] (.Call (.Name "call" q2) [] [] q3) q4]) (suite := []) (b₀ := .Assign [.Name "caught" r2] (.Name "error" r3) r4)
      (tb := fun W D σZ HZ => ∃ E : XK, (∀ cls d H', E cls d H' → W cls d σZ H') ∧ σZ[0]? = some (some (.ref f)) ∧ HZ c' = some (CodeO c' (X.env.qual ++ "<lambda>")) ∧ t E σ HZ fun v H' => D.nx (σZ.set 2 (some v)) H') (ts := fun e cls d => tAsg (tVar 3) (gName 1))
      rfl rfl nd rfl rfl ⟨rfl, by decide, .inl hfe⟩ rfl (fun W pn xe tk _ => pss_one (ps_imp (ps_set nd (i := 2) rfl (.inl rfl) (act W pn xe tk)) fun D σZ HZ ⟨E, a1, a2, a3, a4⟩ => ⟨E, a1, a2, a3, a4⟩)) (fun e ob cls d pn => pss_one (ps_set nd rfl (.inl rfl) (pe_var rfl (.inl rfl))))
    have b3 : PS Z (.Return (some (.Tuple [.Name "caught" t1, .Name "back" t2] 0 t3)) t4) (tRet (tTup _)) := ps_ret (pe_tup (pa_cons (pe_var (i := 1) rfl (.inl rfl)) (pa_cons (pe_var (i := 2) rfl (.inl rfl)) pa_nil)))
    refine ⟨_, (pss_cons b1 (pss_cons b2 (pss_one b3))).nox, ?_⟩
    have l2 : 2 ≤ sizeLine := by rw [sizeLine_eq]; omega
    refine ⟨l2, fun p hp => ⟨p, [.non, .non], rfl, .inl (.inl upd_same), rfl, .non, [.non], rfl, .non, [], rfl, rfl, ?_⟩⟩
    have e2 : ∀ b o, H1 b = some o → upd H1 p (.tup [.non, .non]) b = some o := fun b o e => by rw [upd_ne (ne_of_none e hp)]; exact e
    refine ⟨fun cls d H' => W.exmOne X.K cls (.ref CS) = some true ∧ ∀ e, H' e = none → ∀ p, upd H' e (exv e cls d) p = none → Q (.ref p) (upd (upd H' e (exv e cls d)) p (.tup [.ref e, .non])),
      fun cls d H' q => ⟨q.1, fun e he => ⟨.ref e, rfl, fun _ => ⟨.ref e, rfl, .non, rfl, l2, fun p2 hp2 => q.2 e he p2 hp2⟩⟩⟩, rfl, e2 _ _ hco, ?_⟩
    refine Eq.mp (congrArg (t _ σ _) (funext fun v => funext fun H' => propext ⟨fun q => ?_, fun q => ?_⟩)) (h _ (eN.trans (.of e2)) (T1.ext e2))
    · exact ⟨.non, rfl, v, rfl, l2, fun p2 hp2 => q p2 hp2⟩
    · obtain ⟨v1, a1, v2, a2, _, a3⟩ := q
      cases a1
      cases a2
      exact a3
  refine wpAny_call (codeAny_mono rc fun r s2 q => ?_)
  cases r with
  | error e => exact (show False from q).elim
  | ok fl =>
    cases fl with
    | ret u => exact I1.after q
    | next => exact False.elim q
    | brk => exact False.elim q
    | cont => exact False.elim q
end
end Py
end
section
set_option Elab.async false
set_option linter.all false
set_option maxRecDepth 100000
set_option maxHeartbeats 4000000
/-! Rules, 13: defs as values, repr, tuples repeated, enumerate; errors made, asked, kept. -/
namespace Py
open PySem PySem.Spec PySem.W PySem.Calls PyProof.Rows
section
variable {prog : Program} {w : World} {A : Around} {E : Value → Shared → Prop} {s : Shared} {K : Frag} {xx Dd : Addr} {oxx : Obj}
theorem find_own {C : Addr} {od : Option Obj} {name : Str} {a gg : Value} (hcx : (clsIn K C).isSome = true) (ea : findIn K (.ref C) name = some (some a)) (hg : specialIn K a "__get__" = some (some gg)) (ht : takesIn K a = some true) : findObj K C od name = some (.bind gg a) := by
  obtain ⟨cdx, hcx⟩ := Option.isSome_iff_exists.mp hcx
  unfold findObj
  rw [hcx, Option.bind_some, ea, Option.bind_some]
  simp [hg, ht]
theorem own_cls {od : Option Obj} {Q : Option Value → Shared → Prop} (eg : findIn K (.ref Dd) "__getattribute__" = some (some (.builtin "BaseException.__getattribute__"))) (et : findIn K (.ref Dd) "__getattr__" = some none) (eb : subIn K (.ref Dd) (.type "BaseException") = some true)
    (edc : hasDictIn K Dd = true) (ea : findIn K (.ref Dd) "__class__" = some (some (.builtin "object.__class__")))
    (en : specialIn K (.builtin "object.__class__") "__get__" = some (some (.builtin "getset_descriptor.__get__"))) (ek : takesIn K (.builtin "object.__class__") = some true) (em : mroIn K Dd (.type "object") = some true)
    (Kn : K.In s.heap) (J : InstAt s.heap xx oxx Dd od) (hq : Q (some (.ref Dd)) { s with toks := s.toks + 1 }) : wpAny (model prog w) A (getAttr? (.ref xx) "__class__") Q E s := by
  have efo : findObj K Dd od "__class__" = some (.bind (.builtin "getset_descriptor.__get__") (.builtin "object.__class__")) := find_own (by obtain ⟨cdx, hcx, _⟩ := any_some edc; rw [hcx]; rfl) ea en ek
  obtain ⟨hh, gg, dr, tt, ost⟩ := s
  have l0 := J.type (M := model prog w)
  have l1 := looks_findIn (M := model prog w) Kn eg
  have l2 := looks_findIn (M := model prog w) Kn et
  have l3 := looks_find (M := model prog w) Kn J efo
  have sb : Looks (model prog w) hh (isInstance (.ref xx) (.type "BaseException")) true := l0.andThen (looks_subIn Kn eb)
  have w0 : (false && onTheHeap (Value.builtin "BaseException.__getattribute__")) = false := rfl
  have w2 : (Value.builtin "BaseException.__getattribute__" == Value.builtin "object.__getattribute__") = false := by decide +kernel
  have w1 : (onTheHeap (Value.ref Dd) && Value.builtin "BaseException.__getattribute__" == Value.builtin "object.__getattribute__") = false := by rw [w2]; rfl
  unfold getAttr? getAttrBy? getAttrBy
  refine wpAny_bind (wpAny_mkText (wpAny_bind (wpAny_attempt (wpAny_holding (wpAny_bind (l0.at (wpAny_bind (l1.at ?_))))))))
  show wpAny _ _ (if (onTheHeap (Value.ref Dd) && Value.builtin "BaseException.__getattribute__" == Value.builtin "object.__getattribute__") = true then _ else _) _ _ _
  rw [w1, if_neg Bool.false_ne_true]
  unfold getAttrByItsOwn hookBefore
  refine wpAny_bind ?_
  rw [if_pos (show onTheHeap (Value.ref Dd) = true from rfl)]
  refine l2.at ?_
  refine wpAny_bind (wpAny_attempt (wpAny_holding ?_))
  unfold callGetattribute
  rw [w0, if_neg Bool.false_ne_true]
  unfold boundAndCalled
  rw [PySem.F.excAttr_ValueError.ga.bind (.ref xx)]
  refine wpAny_bind (wpAny_pure ?_)
  show wpAny _ _ (call (.builtin "BaseException.__getattribute__") [.ref xx, .str "__class__" tt]) _ _ _
  refine wpAny_call (codeAny_call_builtin PySem.F.excAttr_ValueError.ga.plain PySem.F.entry_bexc_ga ?_)
  refine @check_slot (model prog w) _ _ ⟨hh, gg, dr, tt + 1, ost⟩ "BaseException.__getattribute__" "BaseException" "__getattribute__" (.ref xx) [.str "__class__" tt] [] _ (by decide +kernel) (by decide +kernel) sb (PySem.F.args_bexc_ga (.ref xx) (.str "__class__" tt)) ?_
  unfold Builtin.«object.__getattribute__»
  refine wpAny_bind (wpAny_of_eq (a := ((Value.ref xx : Value), [Value.str "__class__" tt])) (by first | rfl | (simp only [slotArgs]; rfl)) ?_)
  refine wpAny_bind (wpAny_pure (wpAny_bind (l0.at (wpAny_bind (l3.at ?_)))))
  show wpAny _ _ (holding [Value.builtin "object.__class__"] (call (.builtin "getset_descriptor.__get__") [.builtin "object.__class__", .ref xx, .ref Dd]) >>= ret) _ _ _
  refine wpAny_bind (wpAny_holding (wpAny_call (class_get (s := ⟨hh, gg, dr, tt + 1, ost⟩) (ox := oxx) (od := od) Kn J em ?_)))
  refine wpAny_pure ?_
  show wpAny _ _ (handedOut (.ref Dd)) _ _ _
  rw [handedOut_of (v := .ref Dd) rfl]
  first
    | exact wpAny_pure (wpAny_pure hq)
    | exact wpAny_pure hq
    | exact wpAny_pure (wpAny_bind (wpAny_pure (wpAny_pure hq)))
theorem kitx_own_err {od : Option Obj} (eg : findIn K (.ref Dd) "__getattribute__" = some (some (.builtin "BaseException.__getattribute__"))) (et : findIn K (.ref Dd) "__getattr__" = some none) (eb : subIn K (.ref Dd) (.type "BaseException") = some true) (edc : hasDictIn K Dd = true) (ea : findIn K (.ref Dd) "__class__" = some (some (.builtin "object.__class__")))
    (en : specialIn K (.builtin "object.__class__") "__get__" = some (some (.builtin "getset_descriptor.__get__"))) (ek : takesIn K (.builtin "object.__class__") = some true) (em : mroIn K Dd (.type "object") = some true) :
    KitX K (.ref xx) (.ref Dd) (fun hq => InstAt hq xx oxx Dd od) where
  ty := fun _ _ _ J => J.type
  it := fun _ _ Kn _ => by
    obtain ⟨cdy, hcy, _⟩ := any_some edc
    unfold clsIn at hcy
    split at hcy
    · rename_i c' d' cd' sl' hox
      intro A' Q' E' s' k qq
      unfold isType loadHead
      exact wpAny_bind (wpAny_loadPart (k _ _ (Kn _ _ hox)) (wpAny_pure qq))
    · cases hcy
  ne := fun hq tp dd its n slx Kn htp => by
    obtain ⟨cdy, hcy, _⟩ := any_some edc
    refine Bool.eq_false_iff.mpr fun qq => ?_
    have ee : Dd = tp := Value.ref.inj (beq_iff_eq.mp qq)
    subst ee
    unfold clsIn at hcy
    split at hcy
    · rename_i c' d' cd' sl' hox
      have zz := (Kn _ _ hox).symm.trans htp
      cases zz
    · cases hcy
  ca := fun Kn J k => own_cls eg et eb edc ea en ek em Kn J k
end
end Py
end
section
set_option Elab.async false
set_option linter.all false
set_option autoImplicit false
set_option maxRecDepth 100000
set_option maxHeartbeats 4000000
/-! Rules, 14: the new forms' meanings hold. -/
namespace Py
open PySem PySem.Spec PyProof.Rows L2

/-- what an own error class must give -/
structure ErrC (P : Program) (w : World) (K : W.Frag) (mg : Str → Option Value) (base : Heap) (x : Str) (C : Addr) : Prop where
  g : mg x = some (.ref C)
  isc : L2.ExcC K C
  xf : XfC K C
  isk : W.kitOne K (.ref C) (.ref C) = some true
  no : W.findIn K (.ref C) "value" = some none
  up : ∃ CS, mg "FailsError" = some (.ref CS) ∧ W.exmOne K (.ref C) (.ref CS) = some true
  make : ∃ (D fI : Addr) (fd : FuncData), SupC K C D ∧ W.findIn K (.ref C) "__init__" = some (some (.ref fI)) ∧ W.typeIn K (.ref fI) = some (.type "function") ∧ FnOk P w K mg base CX0 1 fI fd ["self", "value"] (spInit K D "value") ∧ L2.Binds K fd ["self", "value"] []
section
variable {tt : TTs} {X : Cx} {a b : Expr} {ma mb : Fr → Out R} {p px pt pl pr pi : Pos}
theorem se_fnv {x : Str} {f : Addr} (hg : Gl X x) (hm : X.mg x = some (.ref f)) (hd : (x == ("__debug__" : Str)) = false) : PE X (.Name x p) (T tt X.K fun ρ => .ok (.dt (fnD f)) ρ) :=
  se_const (pe_glob (v := .ref f) hg hm rfl hd) fun _ _ => .fn f
/-! ### a call of a def that a slot holds -/
theorem fnA_rel {N : Addr → Prop} {H : Hp} {d : D} {v : V} {f : Nat} (r : RelD X.K N H d v) (h : fnA d = some f) : v = .ref f := by
  unfold fnA at h
  split at h
  · cases h
    cases r with
    | fn a => rw [Int.toNat_natCast]
  · cases h
theorem se_callv {k : Nat} {Φ : Fx} {i np : Nat} {x : Str} {tb : List (Nat × Nat × Str)} {es : List Expr} {ml : Fr → Out (List R)} (D : ∀ e ∈ tb, ∃ fd ps, FnG X.prog X.w X.K X.mg X.base (L2.CX X.prog X.w) k e.1 fd ps (SpF tt.ts X.K np (Φ.md e.2.1) (Φ.call e.2.1)) ∧ W.keepIn X.K (.ref e.1) = true ∧ L2.Binds X.K fd ps [])
    (tk : Takes X fun cls d _ H => tt.E cls d H) (hr : Room k X.A) (hgd : X.A.guards = some []) (hN : X.N[i]? = some x) (hv : Vis X.env.scope x) (ha : PA X (a :: es) (TR tt X.K ml)) (hd : (x == ("__debug__" : Str)) = false) (hcd : (x == ("__classdict__" : Str)) = false)
    (he : starEach (a :: es) X.env = (false, eval a X.env) :: starEach es X.env) (hpl : (backTo p (starEach es X.env)).any (·.1) = false) (hn : ∀ ρ rs ρ', ml ρ = .ok rs ρ' → rs.length = np) :
    PE X (.Call (.Name x px) (a :: es) [] p) (T tt X.K fun ρ => match ρ[i]? with
    | some (.val d) => match (fnA d).bind fun a => tb.find? fun e => e.1 == a with
      | some e => (ml ρ).bind fun rs ρ => callM Φ e.2.1 rs ρ
      | none => .no
    | _ => .no) := by
  let S : Addr → Option Sp := fun f => (tb.find? fun e => e.1 == f).map fun e => SpF tt.ts X.K np (Φ.md e.2.1) (Φ.call e.2.1)
  have hS : ∀ f s, S f = some s → ∃ fd ps, FnG X.prog X.w X.K X.mg X.base (L2.CX X.prog X.w) k f fd ps s ∧ W.keepIn X.K (.ref f) = true ∧ L2.Binds X.K fd ps [] := fun f s h => by
    obtain ⟨e, h1, h2⟩ := Option.map_eq_some_iff.mp h
    have e1 : e.1 = f := by have := List.find?_some h1; exact beq_iff_eq.mp this
    have q := D e (List.mem_of_find?_eq_some h1)
    subst e1 h2
    exact q
  refine pe_imp (pe_callVG (S := S) hS hr hgd hN hv (fun σ => passAt tk σ) ha hd hcd he hpl) fun σ H Q ⟨G, ρ, hs, S1, h⟩ => ?_
  dsimp only at h
  split at h
  · rename_i d hi
    split at h
    · rename_i e he
      obtain ⟨f, h1, h2⟩ := Option.bind_eq_some_iff.mp he
      obtain ⟨v, hv2, rv⟩ := S1.valAt hi
      obtain rfl := fnA_rel rv h1
      refine ⟨f, _, hv2, (congrArg (Option.map _) h2 : S f = _), ?_⟩
      cases e3 : ml ρ with
      | no => simp only [e3] at h; exact h.elim
      | ex C d =>
        simp only [e3, Out.bind_ex] at h
        refine ⟨G, ρ, hs, S1, ?_⟩
        rw [e3]
        exact h
      | ok rs ρ1 =>
        simp only [e3, Out.bind_ok] at h
        refine ⟨G, ρ, hs, S1, ?_⟩
        rw [e3]
        intro xs es H1 E S2
        exact call_step E S2 (E.len.trans (hn _ _ _ e3)) h
    · exact h.elim
  · exact h.elim
/-! ### isinstance of an own error's class -/
def rIsX (C : Addr) : List V → Hp → VK → Prop := fun xs H Q => ∃ (e dx : Addr) (fs : List (Str × V)), xs = [.ref e, .ref C] ∧ H e = some (exv e (.ref C) (some dx)) ∧ H dx = some (.xd fs) ∧ Q (.bl true) H
theorem inst_of {pins : List (Addr × Obj)} {σ : L2.St} {H : Hp} {s : Shared} {e C dx : Addr} {fs : List (Str × V)} (I : Inv X pins σ H s) (he : H e = some (exv e (.ref C) (some dx))) (hd : H dx = some (.xd fs)) :
    ∃ (ob od : Obj) (mA : Str → Option Value), W.InstAt s.heap e ob C (some od) ∧ (∀ n, RelO (fs.lookup n) (mA n)) ∧ ∀ n, W.lookIn n od = some (mA n) := by
  obtain ⟨ob, ho, hz, ws, hw⟩ := exv_at I.hok he
  obtain ⟨mA, hns, hr⟩ := (show ObjOk X.prog X.w H s.heap dx (.xd fs) from I.hok dx _ hd)
  obtain ⟨od, hod, hl⟩ := lookIn_ns hns
  exact ⟨ob, od, mA, ⟨ho, hz.1, by unfold W.notCls; rw [hw] <;> trivial, by rw [hz.2]; exact hod⟩, hr, hl⟩
theorem call_isx {C : Addr} (c : L2.ExcC X.K C) (k : W.kitOne X.K (.ref C) (.ref C) = some true) : CallR X (.builtin "isinstance") (rIsX C) := by
  intro pins s σ H xs us Q I r h
  obtain ⟨e, dx, fs, rfl, he, hd, q⟩ := h
  obtain ⟨u1, u2, rfl, r1, r2⟩ := vals2 r
  cases r1
  cases r2
  obtain ⟨ob, od, mA, J, _, _⟩ := inst_of I he hd
  exact W.kia_one (kitx_own_err c.hg c.hk c.hs c.hd c.ha c.hn c.ht c.hm) I.kIn J k (fun z => nomatch z) fun tk => ⟨.bl true, H, I.kept (t' := tk) fun _ _ z => z, rfl, q⟩
theorem exc_rel {N : Addr → Prop} {H : Hp} {c : Int} {d : D} {v : V} (r : RelT X.K N H (.dict [(.none, .int c), (.none, d)]) v) : ∃ (e dx : Addr) (C : Nat) (u : V), v = .ref e ∧ c = (C : Int) ∧ H e = some (exv e (.ref C) (some dx)) ∧ H dx = some (.xd [("value", u)]) ∧ RelD X.K N H d u := by
  cases r with
  | dt r => cases r with
    | exc h1 h2 r => exact ⟨_, _, _, _, rfl, rfl, h1, h2, r⟩
theorem se_isx {C : Addr} {x : Str} (c : L2.ExcC X.K C) (k : W.kitOne X.K (.ref C) (.ref C) = some true) (hg : Gl X "isinstance") (hm : X.mg "isinstance" = none) (hgx : Gl X x) (hmx : X.mg x = some (.ref C)) (hdx : (x == ("__debug__" : Str)) = false) (ha : PE X a (T tt X.K ma))
    (hs : starEach [a, .Name x pt] X.env = (false, eval a X.env) :: starEach [.Name x pt] X.env) :
    PE X (.Call (.Name "isinstance" px) [a, .Name x pt] [] p) (T tt X.K fun ρ => (ma ρ).bind fun x ρ => ask ((x.look ρ).bind (isxM C)) ρ) := by
  have hx : PE X (.Name x pt) (tC (.ref C)) := pe_glob (v := .ref C) hgx hmx rfl hdx
  refine pe_imp (pe_callB (call_isx c k) hg hm (by decide +kernel) (pa_cons ha (pa_cons hx pa_nil rfl) hs) (by decide) (by decide) hs rfl) fun σ H Q ⟨G, ρ, hs, S, h⟩ => ?_
  refine T.mono (T.ask S (bind_split FinR.no h)) fun x H1 ⟨rx, ρ1, S1, a1, h1⟩ => ?_
  obtain ⟨q, e, h3⟩ := FinR.asked h1
  obtain ⟨d, hd, e⟩ := Option.bind_eq_some_iff.mp e
  have rt := S1.look (r := rx) (fun p hp => List.mem_append_left _ hp) a1 hd
  unfold isxM at e
  split at e
  · obtain ⟨hc, rfl⟩ := iteS e
    obtain ⟨f, dx, C', u, rfl, e1, e2, e3, _⟩ := exc_rel rt
    have e4 : C' = C := Int.ofNat.inj (e1.symm.trans hc)
    subst e4
    exact ⟨f, dx, _, rfl, e2, e3, h3 _ H1 (S1.drops.push_dt (.bl _)) trivial⟩
  · cases e
/-! ### an error's value -/
def tAt (Cs : List Nat) (te : TE) : TE := fun σ H Q => te σ H fun x H1 => ∃ (e C dx : Addr) (v : V), x = .ref e ∧ C ∈ Cs ∧ H1 e = some (exv e (.ref C) (some dx)) ∧ H1 dx = some (.xd [("value", v)]) ∧ Q v H1
theorem pe_at {Cs : List Nat} {te : TE} (hC : ∀ C ∈ Cs, XfC X.K C ∧ W.findIn X.K (.ref C) "value" = some none) (he : PE X a te) (hb : attributeBase a "value" X.env (eval a X.env) = eval a X.env) : PE X (.Attribute a "value" p) (tAt Cs te) := by
  refine ⟨fun pins s σ H Q I h => attr_of hb (thn (he.run pins s σ H _ I h) fun u s1 hh => ?_)⟩
  obtain ⟨x, H1, I1, rx, e, C, dx, v, rfl, hc, h1, h2, q⟩ := hh
  obtain rfl : u = Value.ref e := rx
  obtain ⟨ob, od, mA, J, hr, hl⟩ := inst_of I1 h1 h2
  obtain ⟨T, hno⟩ := hC C hc
  obtain ⟨u2, hu, ru⟩ := RelO.some_of (v := v) (o := mA "value") (hr "value")
  exact HandSPX.exc_get I1.kIn J T.ga T.gg T.exC (W.findObj_own T.hdC hno rfl (by rw [hl, hu])) (handed_of ru) ⟨v, H1, I1.tok _, ru, q⟩
theorem se_attr {Cs : List Nat} (hC : ∀ C ∈ Cs, XfC X.K C ∧ W.findIn X.K (.ref C) "value" = some none) (ha : PE X a (T tt X.K ma)) (hb : attributeBase a "value" X.env (eval a X.env) = eval a X.env) :
    PE X (.Attribute a "value" p) (T tt X.K fun ρ => (ma ρ).bind fun x ρ => ask ((x.look ρ).bind (attrM Cs)) ρ) :=
  pe_imp (pe_at hC ha hb) fun σ H Q ⟨G, ρ, hs, S, h⟩ => by
    refine T.mono (T.ask S (bind_split FinR.no h)) fun x H1 ⟨rx, ρ1, S1, a1, h1⟩ => ?_
    obtain ⟨q, e, h3⟩ := FinR.asked h1
    obtain ⟨d, hd, e⟩ := Option.bind_eq_some_iff.mp e
    have rt := S1.look (r := rx) (fun p hp => List.mem_append_left _ hp) a1 hd
    unfold attrM at e
    split at e
    · obtain ⟨hc, rfl⟩ := iteS e
      obtain ⟨f, dx, C', u, rfl, e1, e2, e3, ru⟩ := exc_rel rt
      obtain ⟨C, hm, hc⟩ := List.any_eq_true.mp hc
      have e4 : C' = C := Int.ofNat.inj (e1.symm.trans (of_decide_eq_true hc))
      subst e4
      obtain ⟨S3, a3⟩ := S1.res (r := .dt _) (res_dt ru)
      exact ⟨f, C', dx, u, rfl, hm, e2, e3, h3 _ H1 S3 a3⟩
    · cases e
/-! ### repr -/
def rRepD (K : W.Frag) : List V → Hp → VK → Prop := fun xs H Q => ∃ (x : V) (d : D) (N : Addr → Prop), xs = [x] ∧ RelT K N H d x ∧ showOk d = true ∧ Q (.str d.shown) H
theorem show_parts {d : D} (h : showOk d = true) : okD d = true ∧ d.showable = true ∧ d.hasDict = false ∧ d.depth ≤ 40 ∧ d.shown.length ≤ sizeLine := by
  unfold showOk at h
  simp only [Bool.and_eq_true, Bool.not_eq_true', decide_eq_true_eq] at h
  exact ⟨h.1.1.1.1, h.1.1.1.2, h.1.1.2, h.1.2, h.2⟩
theorem call_repD (hgd : X.A.guards = some []) (hu : X.A.units + 64 < cLine) : CallR X (.builtin "repr") (rRepD X.K) := by
  intro pins s σ H xs us Q I r h
  obtain ⟨x, d, N, rfl, rt, ho, q⟩ := h
  obtain ⟨o1, o2, o3, o4, o5⟩ := show_parts ho
  obtain ⟨u, rfl, ru⟩ := vals_one r
  have seq : ∀ {e : Addr}, x = .ref e → wpAny (model X.prog X.w) X.A (call (.builtin "repr") [u]) (EP X pins σ Q) X.xe s := fun {e} ex => by
    subst ex
    obtain rfl : u = Value.ref e := ru
    obtain ⟨as, rd⟩ := Dp.reads I d (.ref e) (.ref e) (rt.dp o1) rfl
    exact repr_of_reads' rd o2 (PyData.noDict_hsm o3) hgd (by omega) (fun _ _ z => z) (fun h' u tk hk => ⟨.str d.shown, H, I.kept (t' := tk) hk, ⟨_, rfl⟩, q⟩) o5
  cases d with
  | none =>
    obtain rfl := rt.non
    obtain rfl : u = Value.none := ru
    exact P.repr_of_none ⟨.str "None", H, I.tok _, ⟨_, rfl⟩, by simpa [PyData.shown] using q⟩
  | bool b =>
    obtain rfl := rt.bool
    obtain rfl : u = Value.bool b := ru
    refine P.repr_of_bool ⟨.str (if b then "True" else "False"), H, I.tok _, ?_, by simpa [PyData.shown] using q⟩
    cases b <;> exact ⟨_, rfl⟩
  | int i =>
    obtain rfl := rt.int
    obtain ⟨t, rfl⟩ := ru
    exact P.repr_of_int (of_decide_eq_true (by simpa [PyData.showable] using o2)) ⟨.str (toString i), H, I.tok _, ⟨_, rfl⟩, by simpa [PyData.shown] using q⟩
  | str y =>
    obtain rfl := rt.str
    obtain ⟨t, rfl⟩ := ru
    exact P.repr_of_str ⟨.str (reprText y), H, I.tok _, ⟨_, rfl⟩, by simpa [PyData.shown] using q⟩ (by simpa [PyData.shown] using o5)
  | list ds =>
    obtain ⟨e, vs, rfl, _⟩ := rt.list
    exact seq rfl
  | tuple ds =>
    obtain ⟨e, vs, rfl, _⟩ := rt.tuple
    exact seq rfl
  | dict kvs => simp [okD] at o1
theorem se_rep (hgd : X.A.guards = some []) (hu : X.A.units + 64 < cLine) (hg : Gl X "repr") (hm : X.mg "repr" = none) (ha : PE X a (T tt X.K ma)) (hs : starEach [a] X.env = (false, eval a X.env) :: starEach [] X.env) :
    PE X (.Call (.Name "repr" px) [a] [] p) (T tt X.K fun ρ => (ma ρ).bind fun x ρ => ask ((x.look ρ).bind repM) ρ) :=
  pe_imp (pe_callB (call_repD hgd hu) hg hm (by decide +kernel) (pa_cons ha pa_nil hs) (by decide) (by decide) hs rfl) fun σ H Q h =>
    one_arg h fun N d q x H h1 h2 h3 => by
      unfold repM at h2
      obtain ⟨ho, rfl⟩ := iteS h2
      exact ⟨x, d, N, rfl, h1, ho, h3 _ _ (res_dt (.str _))⟩
/-! ### a tuple some times -/
theorem rel_rep {N : Addr → Prop} {H : Hp} {ds : List D} {vs : List V} (r : RelL X.K N H ds vs) : ∀ n : Nat, RelL X.K N H (List.replicate n ds).flatten (List.replicate n vs).flatten
  | 0 => .nil
  | n + 1 => by rw [List.replicate_succ, List.replicate_succ, List.flatten_cons, List.flatten_cons]; exact r.app (rel_rep r n)
theorem se_rept (ha : PE X a (T tt X.K ma)) (hb : PE X b (T tt X.K mb)) :
    PE X (.BinOp a .Mult b p) (T tt X.K fun ρ => (ma ρ).bind fun x ρ => (mb ρ).bind fun y ρ => ask ((x.look ρ).bind fun x => (y.look ρ).bind fun y => reptM x y) ρ) :=
  pe_imp (pe_op op_repT ha hb) fun σ H Q h => two h fun N d e q x y H h1 h2 h3 h4 => by
    unfold reptM at h3
    split at h3
    · rename_i ds k
      obtain ⟨⟨b1, b2, b3, b4⟩, rfl⟩ := iteS h3
      obtain ⟨l, vs, rfl, hq, rl⟩ := h1.tuple
      obtain rfl := h2.int
      have hl := rl.length
      exact ⟨l, k, vs, rfl, rfl, hq, fun z => b1 (by rw [z] at hl; exact List.eq_nil_of_length_eq_zero hl), b2, b3, by omega, fun p hp => h4 _ _ (res_tup hp (rel_rep rl _))⟩
    · cases h3
theorem rg_rel2 {N : Addr → Prop} {H : Hp} : ∀ l : List Nat, RelL X.K N H (l.map fun (i : Nat) => PyData.int (i : Int)) (l.map fun (i : Nat) => V.int (i : Int))
  | [] => .nil
  | i :: l => .cons (.int _) (rg_rel2 l)
theorem se_trng (hc : X.calm = true) (hg : Gl X "tuple") (hm : X.mg "tuple" = none) (hg2 : Gl X "range") (hm2 : X.mg "range" = none) (ha : PE X a (T tt X.K ma)) (hs : starEach [a] X.env = (false, eval a X.env) :: starEach [] X.env) :
    PE X (.Call (.Name "tuple" pl) [.Call (.Name "range" pr) [a] [] pi] [] p) (T tt X.K fun ρ => (ma ρ).bind fun x ρ => ask ((x.look ρ).bind trngM) ρ) :=
  pe_imp (pe_tupRg hc hg hm (prg_1 hg2 hm2 ha hs) rfl) fun σ H Q ⟨G, ρ, hs, S, h⟩ => by
    refine T.mono (T.ask S (bind_split FinR.no h)) fun x H1 ⟨rx, ρ1, S1, a1, h1⟩ => ?_
    obtain ⟨r, er, h2⟩ := h1.asked
    obtain ⟨d, ed, et⟩ := Option.bind_eq_some_iff.mp er
    have rt := S1.look (r := rx) (fun p hp => List.mem_append_left _ hp) a1 ed
    unfold trngM at et
    split at et
    · rename_i j
      obtain ⟨⟨b1, b2, b3⟩, rfl⟩ := iteS et
      obtain rfl := rt.int
      have e0 : j - 0 = j := Int.sub_zero j
      refine ⟨j, rfl, ⟨by decide, by decide, b1, b2, by rw [e0]; exact b3⟩, fun q hq => ?_⟩
      have e1 : rgV 0 j = (List.range j.toNat).map fun (i : Nat) => V.int (i : Int) := by
        unfold rgV
        rw [e0]
        exact List.map_congr_left fun i _ => by rw [Int.zero_add]
      rw [e1]
      obtain ⟨S2, a2⟩ := S1.res (r := .dt (.tuple ((List.range j.toNat).map fun (i : Nat) => PyData.int (i : Int)))) (res_tup hq (rg_rel2 _))
      exact h2 _ _ S2 a2
    · cases et
/-! ### enumerate -/
theorem enum_get {ds : List D} {i : Nat} {d : D} (h : (enumD ds)[i]? = some d) : ∃ y, ds[i]? = some y ∧ d = .tuple [.int (i : Nat), y] := by
  unfold enumD at h
  rw [List.getElem?_map] at h
  obtain ⟨⟨j, y⟩, h1, h2⟩ := Option.map_eq_some_iff.mp h
  obtain ⟨h3, h4⟩ := List.getElem?_zip_eq_some.mp h1
  obtain ⟨hi, e⟩ := List.getElem?_eq_some_iff.mp h3
  rw [List.getElem_range] at e
  have e : i = j := e
  subst e
  exact ⟨y, h4, h2.symm⟩
theorem feeds_enum {ds : List D} {l : Addr} : Feeds X.K (Ite X.K l) (enumD ds) [(.val (.list ds), some (.ref l))] where
  go := fun G ρ hs σ H i d S hm hd => by
    obtain ⟨_, vs, e, h2, rl⟩ := (RelT.dt (mem_val (d := .list ds) (v := .ref l) S hm List.mem_cons_self)).list
    cases e
    obtain ⟨y, hy, rfl⟩ := enum_get hd
    obtain ⟨v, hv, rd⟩ := rl.get hy
    refine ⟨⟨vs, v, h2.seq, hv⟩, fun z H' ⟨t, v', e1, e2, e3, q1⟩ => ?_⟩
    subst e1 e3
    have q1 := q1 vs h2.seq; rw [hv] at q1; cases q1
    exact S.push_tup e2 (.cons (.int _) (.cons rd .nil))
  stop := fun G ρ hs σ H i S hm hl => by
    obtain ⟨_, vs, e, h2, rl⟩ := (RelT.dt (mem_val (d := .list ds) (v := .ref l) S hm List.mem_cons_self)).list
    cases e
    refine ⟨vs, h2.seq, ?_⟩
    unfold enumD at hl
    rw [List.length_map, List.length_zip, List.length_range] at hl
    have l1 := rl.length
    omega
theorem si_enm {elts : List Expr} {kk : Nat} {tpos : Pos} (hg : Gl X "enumerate") (hm : X.mg "enumerate" = none) (ha : PE X a (T tt X.K ma)) (hs : starEach [a] X.env = (false, eval a X.env) :: starEach [] X.env) :
    PI X (.Tuple elts kk tpos) (.Call (.Name "enumerate" px) [a] [] p) (TIm tt X.K fun ρ => (escM (ma ρ)).bind fun d ρ => match d with
    | .list ds => .ok (enumD ds) ρ
    | _ => .no) :=
  pi_imp (pi_enum hg hm (pa_cons (sd_esc ha) pa_nil hs) (hs.trans rfl)) fun σ H R ⟨G, ρ, hs, S, h⟩ => by
    refine TD.mono (TD.ask S (bind_split (FinI.no (R := R) (hs := hs) (σ := σ)) h)) fun x H1 ⟨d, ρ1, S1, h1⟩ => ?_
    cases d with
    | list ds =>
      obtain ⟨c, vs, rfl, q1, rl⟩ := (RelT.dt (held_rel S1)).list
      exact ⟨c, vs, rfl, q1.seq, h1 _ _ _ feeds_enum S1⟩
    | _ => exact h1.elim
end

/-! ### raise X(e) -/
section
variable {tt : TTs} {X : Cx} {e : Expr} {me : Fr → Out R} {p px pc : Pos} {io : List Nat}
theorem made_eq {H1 : Hp} {a dx C : Addr} {fs : List (Str × V)} (ha : H1 a = none) : upd (del (upd (upd (upd H1 a (exo a C none)) dx (exd dx fs)) a (exo a C (some dx))) a) dx (.xd fs) = upd H1 dx (.xd fs) := by
  funext b
  by_cases h1 : b = dx
  · subst h1; rw [upd_same, upd_same]
  · rw [upd_ne h1, upd_ne h1]
    by_cases h2 : b = a
    · subst h2; rw [del_same, ha]
    · rw [del_ne h2, upd_ne h2, upd_ne h1, upd_ne h2]
theorem xok_of {K : W.Frag} {G : Gh tt} {ρ : Fr} {hs : List Ent} {σ : L2.St} {H : Hp} {d : D} {x : V} (S : Sim K G ρ ((.val d, some x) :: hs) σ H) : XOk K G d x H :=
  ⟨S.sp.sublist (List.singleton_sublist.mpr (List.mem_append_right _ List.mem_cons_self)), S.frm, S.trk, S.tabs⟩
theorem ss_rse {x : Str} {C : Addr} (hc : X.calm = true) (tk : Takes X fun cls d _ H => tt.E cls d H) (hr : Room 2 X.A) (c : ErrC X.prog X.w X.K X.mg X.base x C) (hg : Gl X x) (hdb : (x == ("__debug__" : Str)) = false) (ha : PE X e (T tt X.K me)) (hs : starEach [e] X.env = (false, eval e X.env) :: starEach [] X.env) :
    PS X (.Raise (some (.Call (.Name x px) [e] [] pc)) none p) (TSm tt X.K io fun ρ => (escM (me ρ)).toS fun d _ => .ex C d) := by
  obtain ⟨D, fI, fd, SC, iC, tI, F, hb⟩ := c.make
  refine ps_imp (ps_raise hc tk (pmk_oex SC.ex iC tI F hr hb .nil pass0 hg c.g (pa_cons (sd_esc ha) pa_nil hs) hdb hs rfl)) fun E σ H ⟨G, ρ, hs, S, _, h⟩ => ?_
  refine TD.mono (TD.ask S (toS_split (FinS.no (D := E) (hs := hs)) h)) fun x H1 ⟨d, ρ1, S1, h1⟩ => ⟨by show 1 ≤ 1000; decide, fun a hn => ⟨a, C, x, rfl, SC, c.no, upd_same, fun dx hd hne => ⟨rfl, dx, [("value", x)], upd_same, (upd_ne hne).trans upd_same, ?_, ?_⟩⟩⟩
  · rw [upd_ne hne] at hd; exact hd
  · rw [made_eq hn]
    have hd1 : H1 dx = none := by rw [upd_ne hne] at hd; exact hd
    exact h1 x _ dx (xok_of (S1.grow hd1)) upd_same
end
/-! ### what is heard of a call -/
section
variable {tt ts' : TTs} {K : W.Frag} {G : Gh tt} {ρ ρ' : Fr} {hs : List Ent} {σ : L2.St} {H H' : Hp}
theorem hide_no : ∀ (ρ : Fr) (σ : L2.St), ∀ p ∈ (hideF ρ).zip σ, (∃ o, p = (Sl.no, o)) ∨ ((∃ d, p.1 = .val d) ∧ p ∈ ρ.zip σ)
  | [], _, p, h => by simp [hideF] at h
  | _ :: _, [], p, h => by simp [hideF] at h
  | s :: ρ, o :: σ, p, h => by
    have rest : p ∈ (hideF ρ).zip σ → (∃ o, p = (Sl.no, o)) ∨ ((∃ d, p.1 = .val d) ∧ p ∈ (s :: ρ).zip (o :: σ)) := fun h => by
      rcases hide_no ρ σ p h with q | ⟨q, m⟩
      · exact .inl q
      · exact .inr ⟨q, List.mem_cons_of_mem _ m⟩
    cases s with
    | no =>
      rcases List.mem_cons.mp (show p ∈ (Sl.no, o) :: (hideF ρ).zip σ from h) with rfl | h
      · exact .inl ⟨o, rfl⟩
      · exact rest h
    | val d =>
      rcases List.mem_cons.mp (show p ∈ (Sl.val d, o) :: (hideF ρ).zip σ from h) with rfl | h
      · exact .inr ⟨⟨d, rfl⟩, List.mem_cons_self⟩
      · exact rest h
    | own ds =>
      rcases List.mem_cons.mp (show p ∈ (Sl.no, o) :: (hideF ρ).zip σ from h) with rfl | h
      · exact .inl ⟨o, rfl⟩
      · exact rest h
theorem hide_own {a : Addr} : ¬ ∃ p ∈ (hideF ρ).zip σ ++ [], Owns p a := fun ⟨p, hp, ⟨ds, e⟩, _⟩ => by
  rw [List.append_nil] at hp
  rcases hide_no ρ σ p hp with ⟨o, q⟩ | ⟨⟨d, q⟩, _⟩
  · rw [q] at e; cases e
  · rw [q] at e; cases e
/-- the state as the lambda sees it -/
theorem Sim.hide (S : Sim K G ρ hs σ H) (he : ts'.ts = tt.ts) : Sim (tt := ts') K ⟨H, fun _ => False, NS G ρ hs σ, []⟩ (hideF ρ) [] σ H := by
  refine ⟨by unfold hideF; rw [List.length_map]; exact S.len, ⟨fun p hp d e => ?_, fun p hp ds e => ?_, ?_⟩, fun _ _ z _ _ => z, fun _ z => z, fun a z => absurd z hide_own, fun a z => ⟨?_, fun y => y⟩, by rw [he]; exact S.tabs, fun _ z => absurd z List.not_mem_nil⟩
  · rw [List.append_nil] at hp
    rcases hide_no ρ σ p hp with ⟨o, q⟩ | ⟨_, m⟩
    · rw [q] at e; cases e
    · obtain ⟨v, e2, r⟩ := S.sp.val p (List.mem_append_left _ m) d e
      exact ⟨v, e2, r.sub fun a z => z.elim (fun y => absurd y hide_own) id⟩
  · rw [List.append_nil] at hp
    rcases hide_no ρ σ p hp with ⟨o, q⟩ | ⟨⟨d, q⟩, _⟩
    · rw [q] at e; cases e
    · rw [q] at e; cases e
  · exact List.pairwise_of_forall_mem_list fun p hp q hq a o => absurd ⟨p, hp, o⟩ hide_own
  · rcases z with ⟨p, hp, ⟨ds, e⟩, e2⟩ | z
    · obtain ⟨b, vs, e3, e4, _⟩ := S.sp.own p hp ds e
      rw [e2] at e3; cases e3
      exact ⟨_, e4, nt_lst _⟩
    · exact S.trk a (S.br a z).1
/-- back again, with what it gave -/
theorem Sim.unhide {d : D} {x : V} (S : Sim K G ρ hs σ H) (x1 : XOk (tt := ts') K ⟨H, fun _ => False, NS G ρ hs σ, []⟩ d x H') (he : ts'.ts = tt.ts) : Sim K G ρ ((.val d, some x) :: hs) σ H' := by
  have pres : ∀ a o, H a = some o → Nt o → H' a = some o := fun a o e t => x1.frm a o e t fun z => z
  have noO : ∀ a, ¬ ∃ p ∈ [((Sl.val d, some x) : Ent)], Owns p a := fun a ⟨p, hp, ⟨ds, e⟩, _⟩ => by
    have e2 : p = (.val d, some x) := by simpa using hp
    rw [e2] at e; cases e
  have J := SimP.join (P := []) (P' := ρ.zip σ ++ hs) S.sp x1.sp (fun a o e t _ => pres a o e t) (fun a z => absurd z (noO a))
  refine ⟨S.len, J.perm (zip_held ..), fun a o q t n => pres a o (S.frm a o q t n) t, fun a q => (S.trk a q).keep fun o e t => pres a o e t, fun a ⟨p, hp, o⟩ => ?_, S.br, by have := x1.tabs; rw [he] at this; exact this, S.io⟩
  rcases List.mem_cons.mp ((zip_held ..).mem_iff.mpr hp) with rfl | hp
  · obtain ⟨⟨_, e⟩, _⟩ := o; cases e
  · exact S.ow a ⟨p, hp, o⟩
end
theorem bind_none {q : Str} {body : Expr} {scope : Scope} {cl : List (Str × Addr)} {pm cv ctv : Value} : bindArgs (W.kla_fn "<lambda>" q arg0 body scope cl pm cv ctv) ⟨[], []⟩ = pure [] := by
  unfold bindArgs
  simp [W.kla_fn, arg0, seqItems?, notAStandIn]
section
variable {tt : TTs} {X : Cx} {body : Expr} {mb : Fr → Out R} {Cs : List Nat} {p lpos px : Pos}
theorem heard_imp {CS : Addr} {σ : L2.St} {H : Hp} {Q : VK} (hC : ∀ C ∈ Cs, W.exmOne X.K (.ref C) (.ref CS) = some true) (h : T tt X.K (heardM Cs mb) σ H Q) : tHeard tt.ts X.K CS (fun E => T ⟨tt.ts, E⟩ X.K mb) σ H Q := by
  obtain ⟨G, ρ, hs, S, h⟩ := h
  refine ⟨S.tabs, fun H1 hex ht => ?_⟩
  have S1 := S.extn hex ht
  refine ⟨_, _, _, S1.hide rfl, ?_⟩
  unfold heardM at h
  cases e : mb (hideF ρ) with
  | no => rw [e] at h; exact h.elim
  | ok r ρ' =>
    rw [e] at h
    dsimp only at h
    intro x H' S2 a2
    cases e2 : r.esc ρ' with
    | no => rw [e2] at h; exact h.elim
    | ex C d => exact (esc_nex e2).elim
    | ok d ρ2 =>
      rw [e2] at h
      intro q hq
      have S4 := S1.unhide (xok_of (S2.esc a2 e2)) rfl
      have S5 := S4.push_tup (ds := [.none, d]) (vs := [.non, x]) hq (.cons .non (.cons (held_rel S4) .nil))
      have S6 := S5.held (hs' := (.val (.tuple [.none, d]), some (.ref q)) :: hs) ((List.sublist_cons_self _ _).cons_cons _) (.refl _)
      exact h (.ref q) _ S6 trivial
  | ex C d =>
    rw [e] at h
    dsimp only at h
    split at h
    · rename_i hm
      intro v H' dx x1 hd
      refine ⟨hC C (List.contains_iff_mem.mp hm), fun e he q hq => ?_⟩
      have S4 := S1.unhide x1 rfl
      have S5 := S4.grow (o := exv e (.ref C) (some dx)) he
      have hne : dx ≠ e := fun z => by rw [z, he] at hd; cases hd
      have rx : RelD X.K (NS G ρ ((.val d, some v) :: hs) σ) (upd H' e (exv e (.ref C) (some dx))) (exD C d) (.ref e) := .exc upd_same (by rw [upd_ne hne]; exact hd) (held_rel S5)
      have S6 := S5.push_tup (ds := [exD C d, .none]) (vs := [.ref e, .non]) hq (.cons rx (.cons .non .nil))
      have S7 := S6.held (hs' := (.val (.tuple [exD C d, .none]), some (.ref q)) :: hs) ((List.sublist_cons_self _ _).cons_cons _) (.refl _)
      exact h (.ref q) _ S7 trivial
    · exact h.elim
end
end Py
end
section
set_option Elab.async false
set_option linter.all false
set_option autoImplicit false
set_option maxRecDepth 100000
/-! The terms' meanings hold: what a context must give, what a term must keep to. -/
namespace Py
open PySem PySem.Spec PyProof.Rows L2

/-- globals of a module: ints, the places of defs and of error classes; is _law_heard there -/
structure Gb where
  nums : List (Str × Int)
  fas : List (Str × Nat)
  cls : List (Str × Nat)
  hrd : Bool
/-- what is looked at when a term is checked -/
structure Ck where
  N : List Str
  sc : Scope
  blt : List Str
  fns : List (Nat × Str × Nat)
  gis : Gb
  key : Bool
  lam : Bool
/-- a block's scope as it runs -/
def relS (sc out : Scope) : Scope := { sc with names := sc.names.map fun (n, k) => if (k == .free && out.kind == .function && out.names.lookup n == some .cell) then (n, .cell) else (n, k) }
theorem lookup_map {f : Str → NameKind → NameKind} (x : Str) : ∀ l : List (Str × NameKind), (l.map fun (n, k) => (n, f n k)).lookup x = (l.lookup x).map (f x)
  | [] => rfl
  | (n, k) :: r => by
    simp only [List.map_cons, List.lookup_cons]
    cases h : x == n with
    | true => have e := beq_iff_eq.mp h; subst e; rfl
    | false => exact lookup_map x r
theorem relS_lookup (sc out : Scope) (x : Str) : (relS sc out).names.lookup x = (sc.names.lookup x).map fun k => if (k == .free && out.kind == .function && out.names.lookup x == some .cell) then .cell else k := by
  have e : (relS sc out).names = sc.names.map fun (n, k) => (n, if (k == .free && out.kind == .function && out.names.lookup n == some .cell) then .cell else k) := by
    unfold relS
    refine List.map_congr_left fun y _ => ?_
    obtain ⟨n, k⟩ := y
    dsimp only
    split <;> rfl
  rw [e, lookup_map (f := fun n k => if (k == .free && out.kind == .function && out.names.lookup n == some .cell) then .cell else k)]
def glB (sc : Scope) (x : Str) : Bool := decide (sc.names.lookup x = some .globalImplicit)
def visB (sc : Scope) (x : Str) : Bool := match sc.names.lookup x with
  | some .local => true
  | some .cell => true
  | some .free => true
  | _ => false
def locB (sc : Scope) (x : Str) : Bool := match sc.names.lookup x with
  | some .local => true
  | some .cell => true
  | _ => false
def Ck.bl (C : Ck) (x : Str) : Bool := glB C.sc x && C.blt.contains x
def Ck.vr (C : Ck) (i : Nat) (x : Str) : Bool := decide (C.N[i]? = some x) && visB C.sc x && !(x == ("__debug__" : Str)) && !(x == ("__classdict__" : Str))
def Ck.tg (C : Ck) (i : Nat) (x : Str) : Bool := decide (C.N[i]? = some x) && locB C.sc x
def Ck.fn (C : Ck) (f : Nat) (x : Str) (n : Nat) : Bool := glB C.sc x && C.fns.contains (f, x, n) && !(x == ("__debug__" : Str))
def tgOk (C : Ck) : Tg → Bool
  | .nm i x _ => C.tg i x
  | .row ts _ _ => ts.all fun t => C.tg t.1 t.2.1
def isRow : Tg → Bool
  | .row .. => true
  | .nm .. => false
def Es.len : Es → Nat
  | .nil => 0
  | .cons _ r => r.len + 1
  | .star _ _ r => r.len + 1
def Es.plain : Es → Bool
  | .nil => true
  | .cons _ r => r.plain
  | .star .. => false
def Es.isNil : Es → Bool
  | .nil => true
  | _ => false
def isVI : E → Bool
  | .var .. => true
  | .idx .. => true
  | _ => false
def Ck.cl (C : Ck) (x : Str) (c : Nat) : Bool := glB C.sc x && C.gis.cls.contains (x, c) && !(x == ("__debug__" : Str))
def Ck.clN (C : Ck) (Cs : List Nat) : Bool := Cs.all fun c => C.gis.cls.any fun e => decide (e.2 = c)
mutual
def okE (C : Ck) : E → Bool
  | .var i x _ => C.vr i x
  | .int .. => true
  | .bl .. => true
  | .non .. => true
  | .str .. => true
  | .glI x n _ => glB C.sc x && C.gis.nums.contains (x, n) && !(x == ("__debug__" : Str))
  | .bin _ a b _ => okE C a && okE C b
  | .neg a _ => okE C a
  | .nt a _ => okE C a
  | .bo _ a r _ => okE C a && okEs C r && r.plain
  | .cmp op a b _ => okE C a && okE C b && !behindInMarks op b.toX
  | .cmp2 o1 o2 a b c _ => okE C a && okE C b && okE C c && !lastMarks [o1, o2] [b.toX, c.toX]
  | .ife c a b _ => okE C c && okE C a && okE C b
  | .tup es _ _ => okEs C es
  | .lst es _ => okEs C es
  | .call f x _ es _ => C.fn f x es.len && es.plain && !es.isNil && okEs C es
  | .b1 b _ a _ => C.bl b.name && okE C a
  | .b2 b _ a c _ => C.bl b.name && okE C a && okE C c
  | .isi _ a t _ _ => C.bl "isinstance" && C.bl t.name && okE C a
  | .lrng _ _ a _ _ => C.bl "list" && C.bl "range" && okE C a
  | .sset _ _ a _ _ => C.bl "sorted" && C.bl "set" && okE C a
  | .skey _ a _ f x _ _ => C.key && C.bl "sorted" && C.fn f x 1 && okE C a
  | .slam _ a _ i x _ b sc _ _ => C.lam && C.bl "sorted" && lamPB C.sc sc x && decide (C.N[i]? = some x) && okE C a && okE { C with sc := sc, key := false, lam := false } b
  | .app i x _ pa a p => C.vr i x && okE C a && (pa.endLine == p.line)
  | .ext i x _ pa a p => C.vr i x && okE C a && (pa.endLine == p.line)
  | .pop i x _ pa a p => C.vr i x && okE C a && (pa.endLine == p.line)
  | .idx a b _ => okE C a && okE C b
  | .slo a b _ _ => okE C a && okE C b
  | .shi a b _ _ => okE C a && okE C b
  | .comp elt t src none sc own _ => okSr C (isRow t) src && blkC C.N C.sc sc own && tgOk { C with sc := sc } t && (t.slots.all fun i => (own.map (·.2)).contains i) && okE { C with sc := relS sc C.sc, lam := false } elt
  | .comp elt t src (some c) sc own _ => okSr C (isRow t) src && blkC C.N C.sc sc own && tgOk { C with sc := sc } t && (t.slots.all fun i => (own.map (·.2)).contains i) && okE { C with sc := relS sc C.sc, lam := false } elt && okE { C with sc := relS sc C.sc, lam := false } c
  | .fnv x a _ => glB C.sc x && C.gis.fas.contains (x, a) && !(x == ("__debug__" : Str))
  | .callv i x _ tb es _ => C.vr i x && es.plain && !es.isNil && okEs C es && tb.all fun e => C.fns.contains (e.2.1, e.2.2, es.len) && C.gis.fas.contains (e.2.2, e.1)
  | .isx _ a x c _ _ => C.bl "isinstance" && C.cl x c && okE C a
  | .attr Cs a _ => isVI a && C.clN Cs && okE C a
  | .rep _ a _ => C.bl "repr" && okE C a
  | .rept a b _ => okE C a && okE C b
  | .trng _ _ a _ _ => C.bl "tuple" && C.bl "range" && okE C a
  | .heard Cs _ b sc _ _ => C.lam && glB C.sc "_law_heard" && C.gis.hrd && C.clN Cs && LamX.lamSB C.sc sc && okE { C with sc := sc, key := false, lam := false } b
def okEs (C : Ck) : Es → Bool
  | .nil => true
  | .cons a r => okE C a && okEs C r
  | .star a _ r => okE C a && okEs C r
def okSr (C : Ck) (row : Bool) : Sr → Bool
  | .e a => okE C a
  | .rng _ a _ => C.bl "range" && okE C a
  | .zip _ a b _ => row && C.bl "zip" && okE C a && okE C b
  | .enm _ a _ => row && C.bl "enumerate" && okE C a
end
/-- _law_heard as it stands in the module -/
structure HrdC (K : W.Frag) (mg : Str → Option Value) : Prop where
  ex : ∃ (g CS : Addr) (pg : Arguments) (dV kV doc pm cdv ct oc : Value) (an od : Option Addr) (osl : Array (Option Value)) (p1 p2 p3 p4 p5 p6 p7 q1 q2 q3 q4 r1 r2 r3 r4 r5 r6 t1 t2 t3 t4 : Pos), mg "_law_heard" = some (.ref g) ∧ W.keepIn K (.ref g) = true ∧ mg "FailsError" = some (.ref CS) ∧
    K.lookup g = some ⟨oc, od, .func (W.fnOf "_law_heard" "_law_heard" pg (bHeard p1 p2 p3 p4 p5 p6 p7 q1 q2 q3 q4 r1 r2 r3 r4 r5 r6 t1 t2 t3 t4) scHeard dV kV doc pm an cdv ct), osl⟩ ∧ W.codeIn K cdv "_law_heard" = true ∧
    L2.Binds K (W.fnOf "_law_heard" "_law_heard" pg (bHeard p1 p2 p3 p4 p5 p6 p7 q1 q2 q3 q4 r1 r2 r3 r4 r5 r6 t1 t2 t3 t4) scHeard dV kV doc pm an cdv ct) ["call"] []
/-- what a context gives -/
structure At (tt : TTs) (Φ : Fx) (kf : Nat) (C : Ck) (X : Cx) : Prop where
  calm : X.calm = true
  nm : X.N = C.N
  nd : C.N.Nodup
  sc : X.env.scope = C.sc
  room : Room kf X.A
  gd : X.A.guards = some []
  rkey : C.key = true ∨ C.lam = true → Room (kf + 2) X.A
  fns : ∀ f x np, (f, x, np) ∈ C.fns → ∃ a fd ps, X.mg x = some (.ref a) ∧ W.keepIn X.K (.ref a) = true ∧ L2.Binds X.K fd ps [] ∧ FnG X.prog X.w X.K X.mg X.base (L2.CX X.prog X.w) kf a fd ps (SpF tt.ts X.K np (Φ.md f) (Φ.call f))
  blt : ∀ x ∈ C.blt, X.mg x = none
  gis : ∀ x n, (x, n) ∈ C.gis.nums → ∃ t, X.mg x = some (.int n t)
  fas : ∀ x a, (x, a) ∈ C.gis.fas → X.mg x = some (.ref a)
  cls : ∀ x c, (x, c) ∈ C.gis.cls → ErrC X.prog X.w X.K X.mg X.base x c
  hrd : C.gis.hrd = true → HrdC X.K X.mg
  tk : Takes X fun cls d _ H => tt.E cls d H
  lam : C.lam = true → ∃ c P, LamX.TabB X.base X.mg c P ∧ X.env.code = .ref c ∧ (P, X.env.qual ++ "<lambda>") ∈ tt.ts ∧ ∀ p ∈ tt.ts, p.1 = P → p.2 = X.env.qual ++ "<lambda>"
section
variable {tt : TTs} {Φ : Fx} {kf : Nat} {C : Ck} {X : Cx}
theorem At.gl (A : At tt Φ kf C X) {x : Str} (h : glB C.sc x = true) : Gl X x := by
  unfold glB at h
  have h := of_decide_eq_true h
  rw [← A.sc] at h
  exact h
theorem At.bl (A : At tt Φ kf C X) {x : Str} (h : C.bl x = true) : Gl X x ∧ X.mg x = none := by
  unfold Ck.bl at h
  rw [Bool.and_eq_true] at h
  exact ⟨A.gl h.1, A.blt x (List.contains_iff_mem.mp h.2)⟩
theorem At.vr (A : At tt Φ kf C X) {i : Nat} {x : Str} (h : C.vr i x = true) : X.N[i]? = some x ∧ Vis X.env.scope x ∧ (x == ("__debug__" : Str)) = false ∧ (x == ("__classdict__" : Str)) = false := by
  unfold Ck.vr at h
  simp only [Bool.and_eq_true, Bool.not_eq_true', decide_eq_true_eq] at h
  obtain ⟨⟨⟨h1, h2⟩, h3⟩, h4⟩ := h
  refine ⟨by rw [A.nm]; exact h1, ?_, h3, h4⟩
  unfold visB at h2
  rw [A.sc]
  split at h2
  · exact .inl (by assumption)
  · exact .inr (.inl (by assumption))
  · exact .inr (.inr (by assumption))
  · cases h2
theorem locB_loc {sc : Scope} {x : Str} (h : locB sc x = true) : Loc sc x := by
  unfold locB at h
  split at h
  · exact .inl (by assumption)
  · exact .inr (by assumption)
  · cases h
theorem At.fn (A : At tt Φ kf C X) {f : Nat} {x : Str} {n : Nat} (h : C.fn f x n = true) : Gl X x ∧ (x == ("__debug__" : Str)) = false ∧ ∃ a fd ps, X.mg x = some (.ref a) ∧ W.keepIn X.K (.ref a) = true ∧ L2.Binds X.K fd ps [] ∧ FnG X.prog X.w X.K X.mg X.base (L2.CX X.prog X.w) kf a fd ps (SpF tt.ts X.K n (Φ.md f) (Φ.call f)) := by
  unfold Ck.fn at h
  simp only [Bool.and_eq_true, Bool.not_eq_true'] at h
  exact ⟨A.gl h.1.1, h.2, A.fns f x n (List.contains_iff_mem.mp h.1.2)⟩
theorem At.units (A : At tt Φ kf C X) : X.A.units + 64 < cLine := by have := A.room.un; omega
theorem takes_no {X : Cx} {W : WX} (h : ∀ c d σ H, ¬ W c d σ H := by exact fun _ _ _ _ h => h) : Takes X W := fun u s' ⟨_, _, _, _, _, _, _, _, _, _, _, _, _, _, _, _, w⟩ => (h _ _ _ _ w).elim
theorem At.blk (A : At tt Φ kf C X) (sc : Scope) (s : Shared) (H : Hp) (Cc : Addr) (cl : List (Str × Addr)) (fp : List Addr) : At tt.nx Φ kf { C with sc := relS sc C.sc, lam := false } (X.blk s H sc (compEnvC sc cl Cc X.env) fp) :=
  ⟨A.calm, A.nm, A.nd, by show relS sc X.env.scope = relS sc C.sc; rw [A.sc], A.room, A.gd, fun h => A.rkey (h.imp id fun z => nomatch z), A.fns, A.blt, A.gis, A.fas, A.cls, A.hrd, takes_no, fun h => nomatch h⟩
theorem At.lamC (A : At tt Φ kf C X) (hl : C.lam = true) (sc : Scope) (s : Shared) (H : Hp) (f c' : Addr) : At tt.nx Φ kf { C with sc := sc, key := false, lam := false } (lamC X X.A.in1.in1 s H sc f c') :=
  ⟨rfl, A.nm, A.nd, rfl, (room_in2 (A.rkey (.inr hl))).deeper _, A.gd, fun h => h.elim (fun z => nomatch z) (fun z => nomatch z), A.fns, A.blt, A.gis, A.fas, A.cls, A.hrd, takes_no, fun h => nomatch h⟩
theorem At.heardC (A : At tt Φ kf C X) (sc : Scope) {Ar : Around} {outer : List Env} {s : Shared} {H : Hp} {E : XK} {f c' : Addr} (hg : Ar.guards = some []) (hr : Room kf (Ar.deeper (LamX.lamEnv X sc s.heap.objs.size f c'))) :
    At ⟨tt.ts, E⟩ Φ kf { C with sc := sc, key := false, lam := false } (LamX.lamCx X Ar outer s H E sc f c') :=
  ⟨rfl, A.nm, A.nd, rfl, hr, hg, fun h => h.elim (fun z => nomatch z) (fun z => nomatch z), A.fns, A.blt, A.gis, A.fas, A.cls, A.hrd, takes_of rfl rfl rfl rfl, fun h => nomatch h⟩
theorem At.cl (A : At tt Φ kf C X) {x : Str} {c : Nat} (h : C.cl x c = true) : Gl X x ∧ (x == ("__debug__" : Str)) = false ∧ ErrC X.prog X.w X.K X.mg X.base x c := by
  unfold Ck.cl at h
  simp only [Bool.and_eq_true, Bool.not_eq_true'] at h
  exact ⟨A.gl h.1.1, h.2, A.cls x c (List.contains_iff_mem.mp h.1.2)⟩
theorem At.clN (A : At tt Φ kf C X) {Cs : List Nat} (h : C.clN Cs = true) : ∀ c ∈ Cs, ∃ x, ErrC X.prog X.w X.K X.mg X.base x c := fun c hc => by
  unfold Ck.clN at h
  obtain ⟨e, he, h2⟩ := List.any_eq_true.mp (List.all_eq_true.mp h c hc)
  have h2 := of_decide_eq_true h2
  subst h2
  exact ⟨e.1, A.cls e.1 e.2 he⟩
theorem At.tg (A : At tt Φ kf C X) {t : Tg} (h : tgOk C t = true) (hf : ∀ x, Loc X.env.scope x → X.fn x = true ∨ X.env.scope.names.lookup x = some .local) : ∃ g, PG X t.toX g ∧ PutOk X.K t.slots g t.put := by
  have key : ∀ {i x}, C.tg i x = true → X.N[i]? = some x ∧ Loc X.env.scope x := fun {i x} h => by
    unfold Ck.tg at h
    rw [Bool.and_eq_true, decide_eq_true_eq] at h
    exact ⟨by rw [A.nm]; exact h.1, by rw [A.sc]; exact locB_loc h.2⟩
  have hN : X.N.Nodup := by rw [A.nm]; exact A.nd
  cases t with
  | nm i x p =>
    have q := key (i := i) (x := x) h
    exact ⟨_, sg_nm (p := p) hN q.1 q.2 (hf _ q.2), put_nm⟩
  | row ts k p =>
    have h : (ts.all fun t => C.tg t.1 t.2.1) = true := h
    rw [List.all_eq_true] at h
    exact ⟨_, sg_row A.calm hN fun t ht => ⟨(key (h t ht)).1, (key (h t ht)).2, hf _ (key (h t ht)).2⟩, put_row⟩
end

/-! ### displays are plain -/
theorem star_E (e : E) (r : List Expr) (env : Env) : starEach (e.toX :: r) env = (false, eval e.toX env) :: starEach r env := by
  cases e with
  | comp elt t src ifs sc own p => cases ifs <;> rfl
  | _ => rfl
theorem folded_E (e : E) (env : Env) (x : Value) : foldedSetIterable e.toX env x = pure x := by
  cases e with
  | comp elt t src ifs sc own p => cases ifs <;> rfl
  | _ => rfl
theorem folded_Sr (s : Sr) (env : Env) (x : Value) : foldedSetIterable s.toX env x = pure x := by
  cases s with
  | e a => exact folded_E a env x
  | _ => rfl
theorem base_VI (e : E) (h : isVI e = true) (n : Str) (env : Env) (m : Sem Value) : attributeBase e.toX n env m = m := by
  cases e with
  | var i x p => rfl
  | idx a b p => rfl
  | _ => cases h
theorem plainIx_E (e : E) : PlainIx e.toX := by
  intro o i
  cases e with
  | comp elt t src ifs sc own p => cases ifs <;> rfl
  | _ => rfl
theorem plain_Es : ∀ (es : Es), es.plain = true → ∀ (env : Env) (p : Pos), (backTo p (starEach es.toX env)).any (·.1) = false
  | .nil, _, _, _ => rfl
  | .cons a r, h, env, p => by
    show (backTo p (starEach (a.toX :: r.toX) env)).any (·.1) = false
    rw [star_E]
    show (false || (backTo p (starEach r.toX env)).any (·.1)) = false
    rw [plain_Es r h env p]
    rfl
  | .star .., h, _, _ => nomatch h
theorem evr_len (Φ : Fx) : ∀ (es : Es) (ρ ρ' : Fr) (rs : List R), evr Φ es ρ = .ok rs ρ' → rs.length = es.len
  | .nil, ρ, ρ', rs, h => by
    unfold evr at h
    cases h; rfl
  | .cons a r, ρ, ρ', rs, h => by
    unfold evr at h
    cases e : ev Φ a ρ with
    | no => rw [e] at h; cases h
    | ex _ _ => rw [e] at h; cases h
    | ok x ρ1 =>
      rw [e, Out.bind_ok] at h
      cases e2 : evr Φ r ρ1 with
      | no => rw [e2] at h; cases h
      | ex _ _ => rw [e2] at h; cases h
      | ok xs ρ2 =>
        rw [e2, Out.bind_ok] at h
        cases h
        rw [List.length_cons, evr_len Φ r _ _ _ e2]
        rfl
  | .star .., ρ, ρ', rs, h => by unfold evr at h; cases h
end Py
end
section
set_option Elab.async false
set_option linter.all false
set_option autoImplicit false
set_option maxRecDepth 100000
/-! The set's table for larger masks: what is put in is found again. -/
namespace Py
open PySem PySem.Spec PyProof.Rows L2

/-! ### the round of 5 i + 1 for 512 and 2048 slots -/
/-- the slots met from x on, in f steps, as a mask -/
def seen (m : Nat) : Nat → Nat → Nat → Nat
  | 0, _, acc => acc
  | f + 1, x, acc => seen m f ((x * 5 + 1) % (m + 1)) (acc ||| (1 <<< x))
theorem seen_bit (m : Nat) : ∀ (f b acc j : Nat), (seen m f (lcgN m b) acc).testBit j = true → acc.testBit j = true ∨ ∃ k, k < f ∧ lcgN m (b + k) = j
  | 0, b, acc, j, h => .inl h
  | f + 1, b, acc, j, h => by
    have h' : (seen m f (lcgN m (b + 1)) (acc ||| (1 <<< lcgN m b))).testBit j = true := h
    rcases seen_bit m f (b + 1) _ j h' with q | ⟨k, k1, k2⟩
    · rw [Nat.testBit_or, Bool.or_eq_true, Nat.one_shiftLeft, Nat.testBit_two_pow, decide_eq_true_eq] at q
      exact q.imp id fun e => ⟨0, Nat.succ_pos _, e⟩
    · exact .inr ⟨k + 1, Nat.succ_lt_succ k1, by rw [← k2]; congr 1; omega⟩
/-- a mask whose round meets every slot -/
structure MK (m : Nat) : Prop where
  full : ∀ i j, i ≤ m → j ≤ m → ∃ k, k ≤ m ∧ lcgI m i k = j
  odd : m % 2 = 1
  top : m ≤ 2047
theorem MK.of_seen {m : Nat} (h : seen m (m + 1) 0 0 = 2 ^ (m + 1) - 1) (hr : lcgN m (m + 1) = 0) (o : m % 2 = 1) (t : m ≤ 2047) : MK m := by
  have one : ∀ j, j ≤ m → ∃ b, b ≤ m ∧ lcgN m b = j := fun j hj => by
    have hb : (seen m (m + 1) (lcgN m 0) 0).testBit j = true := by
      show (seen m (m + 1) 0 0).testBit j = true
      rw [h, Nat.testBit_two_pow_sub_one]; exact decide_eq_true (Nat.lt_succ_of_le hj)
    rcases seen_bit m (m + 1) 0 0 j hb with q | ⟨k, k1, k2⟩
    · simp at q
    · exact ⟨k, Nat.le_of_lt_succ k1, by rw [← k2, Nat.zero_add]⟩
  have turn : ∀ k, lcgN m (m + 1 + k) = lcgN m k := fun k => by
    induction k with
    | zero => exact hr
    | succ k ih => show (lcgN m (m + 1 + k) * 5 + 1) % (m + 1) = _; rw [ih]; rfl
  refine ⟨fun i j hi hj => ?_, o, t⟩
  obtain ⟨x, hx, rfl⟩ := one i hi
  obtain ⟨y, hy, rfl⟩ := one j hj
  by_cases c : x ≤ y
  · exact ⟨y - x, by omega, by rw [lcgN_add]; congr 1; omega⟩
  · refine ⟨y + (m + 1) - x, by omega, ?_⟩
    rw [lcgN_add, show x + (y + (m + 1) - x) = m + 1 + y by omega, turn]
theorem mk7 : MK 7 := .of_seen (by decide +kernel) (by decide +kernel) rfl (by decide)
theorem mk31 : MK 31 := .of_seen (by decide +kernel) (by decide +kernel) rfl (by decide)
theorem mk127 : MK 127 := .of_seen (by decide +kernel) (by decide +kernel) rfl (by decide)
theorem mk511 : MK 511 := .of_seen (by decide +kernel) (by decide +kernel) rfl (by decide)
theorem mk2047 : MK 2047 := .of_seen (by decide +kernel) (by decide +kernel) rfl (by decide)
/-- every slot begins a run soon enough -/
theorem MK.runs {m : Nat} (M : MK m) (h : Int) {j : Nat} (hj : j ≤ m) : ∃ n, n ≤ m + 12 ∧ runI m (SetTable.bits h) n = j :=
  let ⟨k, k1, k2⟩ := M.full _ j (runI_le m (SetTable.bits h) 12) hj
  ⟨12 + k, by omega, (runI_tail (bits_lt h) k).trans k2⟩
theorem MK.met {m : Nat} (M : MK m) (h : Int) {j : Nat} (hj : j ≤ m) : ∃ k, k < 10 * SetTable.turns m ∧ way m h k = j := by
  obtain ⟨n, n1, n2⟩ := M.runs h hj
  obtain ⟨k, k1, k2⟩ := run_nth m (SetTable.bits h) n
  exact ⟨k, by unfold SetTable.turns; omega, by show (nth _ _ k).j = j; rw [k2]; exact n2⟩
theorem way_top {m : Nat} (h : Int) (k : Nat) : way m h k ≤ m := by
  have hi : SetTable.bits h % (m + 1) ≤ m := Nat.le_of_lt_succ (Nat.mod_lt _ (Nat.succ_pos m))
  have e := runEnd_bd hi
  have q : (nth m (runAt m (SetTable.bits h % (m + 1)) (SetTable.bits h)) k).j + (nth m (runAt m (SetTable.bits h % (m + 1)) (SetTable.bits h)) k).more ≤ m :=
    nth_in k _ (by show SetTable.bits h % (m + 1) + (SetTable.runEnd m (SetTable.bits h % (m + 1)) - _) ≤ m; omega)
  exact Nat.le_trans (Nat.le_add_right _ _) q

/-! ### the table -/
/-- each hash is found on its own way before an empty slot -/
structure Tab (t : SetTable) (hs : List Int) : Prop where
  up : Ris t.place.toList
  no : t.dummies = #[]
  len : t.place.toList.length = hs.length
  msk : MK t.mask
  inn : ∀ x ∈ t.place.toList, x ≤ t.mask
  back : ∀ (i : Nat) (h : Int) (j : Nat), hs[i]? = some h → t.place.toList[i]? = some j → ∃ k, way t.mask h k = j ∧ ∀ c, c < k → way t.mask h c ∈ t.place.toList
section
variable {t : SetTable} {hs : List Int}
/-- the first empty slot on a way -/
theorem Tab.hole (T : Tab t hs) (hl : hs.length ≤ t.mask) (h : Int) : ∃ K, K < 10 * SetTable.turns t.mask ∧ way t.mask h K ∉ t.place.toList ∧ ∀ c, c < K → way t.mask h c ∈ t.place.toList := by
  obtain ⟨j, j1, j2⟩ := st_missing t.place.toList (t.mask + 1) (by rw [T.len]; omega)
  obtain ⟨k, k1, k2⟩ := T.msk.met h (Nat.le_of_lt_succ j1)
  obtain ⟨K, q1, q2, q3⟩ := st_least (p := fun k => way t.mask h k ∉ t.place.toList) k (by rw [← k2] at j2; exact j2)
  exact ⟨K, by omega, q2, fun c hc => Classical.byContradiction fun z => q3 c hc z⟩
theorem Tab.ahead (T : Tab t hs) {h : Int} {K i j : Nat} (hK : way t.mask h K ∉ t.place.toList) (hi : hs[i]? = some h) (hj : t.place.toList[i]? = some j) : ∃ k, k < K ∧ way t.mask h k = j := by
  obtain ⟨k, k1, k2⟩ := T.back i h j hi hj
  refine ⟨k, Classical.byContradiction fun z => ?_, k1⟩
  rcases Nat.lt_or_eq_of_le (Nat.le_of_not_lt z) with y | y
  · exact hK (k2 K y)
  · exact hK (y ▸ k1.symm ▸ List.mem_of_getElem? hj)
theorem Tab.add (T : Tab t hs) {h : Int} {K : Nat} (hK : way t.mask h K ∉ t.place.toList) (hb : ∀ c, c < K → way t.mask h c ∈ t.place.toList) :
    SetTable.below t.place (way t.mask h K) ≤ hs.length ∧ Tab (t.put (way t.mask h K)).1 (hs.take (SetTable.below t.place (way t.mask h K)) ++ h :: hs.drop (SetTable.below t.place (way t.mask h K))) ∧ (t.put (way t.mask h K)).1.fill = hs.length + 1 := by
  have top := way_top (m := t.mask) h K
  generalize hw : way t.mask h K = j at hK top ⊢
  have b1 : SetTable.below t.place j ≤ t.place.toList.length := by rw [Array.length_toList]; exact (below_cut T.up j).1
  have b2 : SetTable.below t.place j ≤ hs.length := T.len ▸ b1
  have e := put_place t j
  have hne : t.place[SetTable.below t.place j]? ≠ some j := fun z => hK (List.mem_of_getElem? ((Array.getElem?_toList ..).trans z))
  have keep : ∀ {x}, x ∈ t.place.toList → x ∈ (t.put j).1.place.toList := fun hx => e ▸ mem_ins.2 (.inr hx)
  have len1 : (t.put j).1.place.toList.length = hs.length + 1 := by rw [e, len_ins _ b1, T.len]
  refine ⟨b2, ⟨ris_insert T.up hne, put_dm T.no j, by rw [len1, len_ins _ b2], T.msk, fun x hx => ?_, fun i g j' g1 g2 => ?_⟩, ?_⟩
  · rcases mem_ins.1 (e ▸ hx) with z | z
    · exact z ▸ top
    · exact T.inn x z
  · rw [tins_get hs b2] at g1
    rw [e, tins_get _ b1] at g2
    have old : ∀ i0, hs[i0]? = some g → t.place.toList[i0]? = some j' → ∃ k, way t.mask g k = j' ∧ ∀ c, c < k → way t.mask g c ∈ (t.put j).1.place.toList := fun i0 y1 y2 =>
      let ⟨k, k1, k2⟩ := T.back i0 g j' y1 y2
      ⟨k, k1, fun c hc => keep (k2 c hc)⟩
    split at g1
    · rename_i z
      rw [if_pos z] at g2
      exact old i g1 g2
    · rename_i z
      rw [if_neg z] at g2
      split at g1
      · rename_i y
        rw [if_pos y] at g2
        cases g1; cases g2
        exact ⟨K, hw, fun c hc => keep (hb c hc)⟩
      · rename_i y
        rw [if_neg y] at g2
        exact old (i - 1) g1 g2
  · show (t.put j).1.place.size + (t.put j).1.dummies.size = _
    rw [put_dm T.no j, ← Array.length_toList, len1]; rfl
end

/-! ### all laid anew -/
/-- the free slot that laying anew finds -/
theorem MK.free {m : Nat} (M : MK m) (owner : Array (Option Nat)) (h : Int) {j : Nat} (hj : j ≤ m) (hf : oAt owner j = none) :
    ∃ K, SetTable.layClean.free m owner (SetTable.turns m) (SetTable.bits h % (m + 1)) (SetTable.bits h) = some (way m h K) ∧ oAt owner (way m h K) = none ∧ ∀ c, c < K → oAt owner (way m h c) ≠ none := by
  obtain ⟨n, n1, n2⟩ := M.runs h hj
  have e : way m h (off m (SetTable.bits h % (m + 1)) (SetTable.bits h) n) = j := by
    show (nth m _ _).j = j
    rw [nth_off, itL_run]; exact n2
  obtain ⟨K, k1, k2, k3⟩ := st_least (p := fun k => oAt owner (way m h k) = none) _ (by rw [← e] at hf; exact hf)
  refine ⟨K, free_spec m owner _ n _ _ K (by unfold SetTable.turns; omega) k1 (fun c hc => ?_) ?_, k2, k3⟩
  · have q := k3 c hc
    revert q
    show oAt owner (way m h c) ≠ none → (oAt owner (way m h c)).isNone = false
    cases oAt owner (way m h c) with
    | none => exact fun q => absurd rfl q
    | some z => exact fun _ => rfl
  · show (oAt owner (way m h K)).isNone = true
    rw [k2]; rfl
theorem MK.lay1 {m : Nat} (M : MK m) {done : List Int} {owner : Array (Option Nat)} (W : Own m done owner) (hl : done.length ≤ m) (h : Int) :
    ∃ j, SetTable.layClean.free m owner (SetTable.turns m) (SetTable.bits h % (m + 1)) (SetTable.bits h) = some j ∧ Own m (done ++ [h]) (owner.setIfInBounds j (some done.length)) := by
  obtain ⟨ps, ps1, ps2⟩ := W.ps
  obtain ⟨x, x1, x2⟩ := st_missing ps (m + 1) (by omega)
  have hx : oAt owner x = none := Classical.byContradiction fun z => x2 (ps2 x (Nat.le_of_lt_succ x1) z)
  obtain ⟨K, k1, k2, k3⟩ := M.free owner h (Nat.le_of_lt_succ x1) hx
  have top := way_top (m := m) h K
  have me : oAt (owner.setIfInBounds (way m h K) (some done.length)) (way m h K) = some done.length := oAt_set_self _ (by rw [W.sz]; omega)
  have grow : ∀ i, oAt owner i ≠ none → oAt (owner.setIfInBounds (way m h K) (some done.length)) i ≠ none := fun i q => by
    by_cases c : i = way m h K
    · exact absurd (c ▸ k2) q
    · rw [oAt_set_ne _ c]; exact q
  refine ⟨_, k1, by rw [Array.size_setIfInBounds, W.sz], fun j k hj q => ?_, fun k hk => ?_, way m h K :: ps, by simp [ps1], fun j hj q => ?_⟩
  · by_cases c : j = way m h K
    · subst c
      rw [me] at q; cases q
      exact ⟨h, K, by simp, rfl, fun c hc => grow _ (k3 c hc)⟩
    · rw [oAt_set_ne _ c] at q
      obtain ⟨g, k', a1, a2, a3⟩ := W.at_ j k hj q
      exact ⟨g, k', by rw [List.getElem?_append_left (List.getElem?_eq_some_iff.mp a1).1, a1], a2, fun c hc => grow _ (a3 c hc)⟩
  · rcases Nat.lt_or_ge k done.length with c | c
    · obtain ⟨j, j1, j2⟩ := W.all k c
      exact ⟨j, j1, by rw [oAt_set_ne _ fun z => by rw [z, k2] at j2; cases j2]; exact j2⟩
    · have e : k = done.length := by rw [List.length_append] at hk; simp at hk; omega
      exact ⟨_, top, e ▸ me⟩
  · by_cases c : j = way m h K
    · exact c ▸ List.mem_cons_self
    · rw [oAt_set_ne _ c] at q
      exact List.mem_cons_of_mem _ (ps2 j hj q)
theorem MK.lays {m : Nat} (M : MK m) : ∀ (rest done : List Int) (owner : Array (Option Nat)), Own m done owner → done.length + rest.length ≤ m →
    ∃ w, rest.foldl (stepF m) (some (owner, done.length)) = some (w, (done ++ rest).length) ∧ Own m (done ++ rest) w
  | [], done, owner, W, _ => ⟨owner, by simp, by simpa using W⟩
  | h :: rest, done, owner, W, hl => by
    obtain ⟨j, j1, W1⟩ := M.lay1 W (by simp at hl; omega) h
    obtain ⟨w, q1, q2⟩ := M.lays rest (done ++ [h]) _ W1 (by simp at hl ⊢; omega)
    refine ⟨w, ?_, by simpa using q2⟩
    rw [List.foldl_cons, stepF_some j1]
    simpa using q1
theorem MK.relaid {M : Nat} (hM : MK M) (t : SetTable) {hs : Array Int} {wanted : Nat} (hw : SetTable.sizeAbove wanted - 1 = M) (hn : hs.size ≤ M) :
    ∃ t' order, t.relaid hs wanted = some (t', order) ∧ order.toList.Perm (List.range hs.size) ∧ Tab t' (order.toList.map fun i => hs.getD i 0) ∧ t'.mask = M ∧ t'.led = t.led ∧ t'.plain = t.plain := by
  obtain ⟨w, q, W⟩ := hM.lays hs.toList [] _ (Own.init M) (by simpa using hn)
  rw [List.nil_append] at q W
  have hr : t.relaid hs wanted = some (tabOf t M w, ((liveOf M w).map (·.2)).toArray) := by
    rw [relaid_eq, hw, layClean_eq, show (some (Array.replicate (M + 1) none, 0) : Option (Array (Option Nat) × Nat)) = some (Array.replicate (M + 1) none, ([] : List Int).length) from rfl, q]; rfl
  obtain ⟨r1, r2⟩ := ris_live (fun j => w.getD j none) (List.range (M + 1)) List.pairwise_lt_range
  have r1 : Ris ((liveOf M w).map (·.1)) := r1
  have r2 : ∀ x ∈ (liveOf M w).map (·.1), x ∈ List.range (M + 1) := r2
  have in2 : ∀ k, k < hs.size → k ∈ (liveOf M w).map (·.2) := fun k hk =>
    let ⟨j, j1, j2⟩ := W.all k (by simpa using hk)
    List.mem_map.mpr ⟨(j, k), (mem_live W.sz).2 ⟨j1, j2⟩, rfl⟩
  have len : (liveOf M w).length = hs.size := by
    obtain ⟨ps, ps1, ps2⟩ := W.ps
    have a := nat_nodup_len _ ps (r1.imp fun z => Nat.ne_of_lt z) fun x hx => by
      obtain ⟨⟨y, k⟩, y1, rfl⟩ := List.mem_map.mp hx
      have y2 := (mem_live W.sz).1 y1
      exact ps2 y y2.1 (by rw [y2.2]; exact fun z => nomatch z)
    have b := nat_nodup_len (List.range hs.size) _ List.nodup_range fun k hk => in2 k (List.mem_range.mp hk)
    simp at a b ps1
    omega
  refine ⟨_, _, hr, perm_range hs.size _ (by simpa using len) in2, ⟨r1, rfl, by simp [tabOf], hM, fun x hx => Nat.le_of_lt_succ (List.mem_range.mp (r2 x hx)), fun i h j h1 h2 => ?_⟩, rfl, rfl, rfl⟩
  have h2 : ((liveOf M w).map (·.1))[i]? = some j := h2
  have h1 : (((liveOf M w).map (·.2)).map fun i => hs.getD i 0)[i]? = some h := h1
  rw [List.getElem?_map] at h2
  rw [List.map_map, List.getElem?_map] at h1
  obtain ⟨⟨y, k⟩, y1, rfl⟩ := Option.map_eq_some_iff.mp h2
  rw [y1] at h1
  have h1 : hs.getD k 0 = h := Option.some.inj h1
  have y2 := (mem_live W.sz).1 (List.mem_of_getElem? y1)
  obtain ⟨g, K, a1, a2, a3⟩ := W.at_ y k y2.1 y2.2
  have e : hs.getD k 0 = g := by
    rw [Array.getElem?_toList] at a1
    simp [Array.getD_eq_getD_getElem?, a1]
  obtain rfl := h1.symm.trans e
  refine ⟨K, a2, fun c hc => ?_⟩
  cases z : oAt w (way M h c) with
  | none => exact absurd z (a3 c hc)
  | some x => exact List.mem_map.mpr ⟨(_, x), (mem_live W.sz).2 ⟨way_top _ _, z⟩, rfl⟩
theorem size_307 : SetTable.sizeAbove (SetTable.grown 307) = 2048 := by decide +kernel
theorem size_77 : SetTable.sizeAbove (SetTable.grown 77) = 512 := by decide +kernel
end Py
end
section
set_option Elab.async false
set_option linter.all false
set_option autoImplicit false
set_option maxRecDepth 100000
set_option maxHeartbeats 4000000
/-! The set of tuples of ints, with room for a thousand. -/
namespace Py
open PySem PySem.Spec PyProof.Rows L2

/-- the set at a: the tuples that stand in it, in the table's order -/
structure STab (P : Program) (w : World) (h : Heap) (a : Addr) (L : List (Addr × List Int)) (es : Array (Int × Value)) (ep : Nat) (t : SetTable) : Prop where
  obj : ∃ o, h.get? a = some o ∧ o.ExactSet ∧ o.data = .set es ep t
  row : es.toList = rowsOf P w L
  tab : Tab t (L.map fun p => thash P w p.2)
  dif : (L.map (·.2)).Nodup
  its : ∀ p ∈ L, IsT P w h p.2 p.1
  pln : t.plain = true
  led : w.params.followText "set-order" = true ∨ t.led = true
  spc : L.length * 5 < t.mask * 3
  few : L.length < 1000
section
variable {P : Program} {w : World} {A : Around} {E : Value → Shared → Prop} {s : Shared} {a : Addr} {L : List (Addr × List Int)} {es : Array (Int × Value)} {ep : Nat} {t : SetTable}
theorem rows_len {L : List (Addr × List Int)} {es : Array (Int × Value)} (h : es.toList = rowsOf P w L) : es.size = L.length := by
  rw [← Array.length_toList, h]; unfold rowsOf; exact List.length_map _
theorem fits_of {t : SetTable} {hs : List Int} {n : Nat} (T : Tab t hs) (hn : n = hs.length) (hm : n ≤ t.mask) : t.fits n = true := by
  have q := T.len
  rw [Array.length_toList] at q
  unfold SetTable.fits SetTable.fill
  rw [T.no, Bool.and_eq_true, beq_iff_eq, decide_eq_true_eq]
  exact ⟨q.trans hn.symm, by show t.place.size + 0 ≤ t.mask; omega⟩
theorem STab.fit (R : STab P w s.heap a L es ep t) : t.fits es.size = true := by
  have := R.spc
  exact fits_of R.tab (by rw [rows_len R.row, List.length_map]) (by rw [rows_len R.row]; omega)
theorem STab.at (R : STab P w s.heap a L es ep t) {i : Nat} {p : Addr × List Int} (h : L[i]? = some p) : es[i]? = some (thash P w p.2, Value.ref p.1) := by
  rw [← Array.getElem?_toList, R.row]; unfold rowsOf; rw [List.getElem?_map, h]; rfl
/-- the search from the c-th step of the way on -/
theorem STab.go (R : STab P w s.heap a L es ep t) {x : Addr} {k : List Int} (hx : IsT P w s.heap k x) (hu : A.units < cLine) {K : Nat} (hf : K < 10 * SetTable.turns t.mask) (hK : way t.mask (thash P w k) K ∉ t.place.toList)
    (hb : ∀ c, c < K → way t.mask (thash P w k) c ∈ t.place.toList) {Q : SetFound → Shared → Prop} (yes : k ∈ L.map (·.2) → Q (.there none) s) (nay : k ∉ L.map (·.2) → Q (.free (way t.mask (thash P w k) K) false) s) :
    ∀ (f c : Nat) (stand : Option SetTable.Probe), stand.getD (t.probeStart (thash P w k)) = nth t.mask (runAt t.mask (SetTable.bits (thash P w k) % (t.mask + 1)) (SetTable.bits (thash P w k))) c → c ≤ K → K - c < f →
      (∀ (i : Nat) p, L[i]? = some p → p.2 = k → ∃ d, c ≤ d ∧ d < K ∧ t.place.toList[i]? = some (way t.mask (thash P w k) d)) → wpAny (model P w) A (setSearchFrom a (.ref x) (thash P w k) true f stand) Q E s
  | 0, _, _, _, _, z, _ => absurd z (Nat.not_lt_zero _)
  | f + 1, c, stand, hst, hc, hcf, hre => by
    obtain ⟨o, ho, hex, hd⟩ := R.obj
    have dn : ∀ (n : Nat) (p : SetTable.Probe), p.dummy = none → (nth t.mask p n).dummy = none := fun n => by
      induction n with
      | zero => exact fun p z => z
      | succ n ih => exact fun p z => ih _ (by unfold adv; split <;> exact z)
    have nx : ∀ q, nth t.mask (nth t.mask (runAt t.mask (SetTable.bits (thash P w k) % (t.mask + 1)) (SetTable.bits (thash P w k))) c) q = nth t.mask (runAt t.mask (SetTable.bits (thash P w k) % (t.mask + 1)) (SetTable.bits (thash P w k))) (c + q) := fun q => (nth_add ..).symm
    have ny : ∀ q, (nth t.mask (nth t.mask (runAt t.mask (SetTable.bits (thash P w k) % (t.mask + 1)) (SetTable.bits (thash P w k))) c) q).j = way t.mask (thash P w k) (c + q) := fun q => by rw [nx]
    have hsh : ∀ (i : Nat) p, L[i]? = some p → p.2 = k → ((es[i]?.map (·.1)).getD 0) = thash P w k := fun i p h1 h2 => by rw [R.at h1, ← h2]; rfl
    rw [setSearchFrom_succ]
    refine wpAny_bind (wpAny_setState_of ho hd R.fit ?_)
    dsimp only
    refine wp_if_neg (by unfold SetTable.gaveWay; rw [R.tab.msk.odd]; decide) ?_
    try refine wpAny_bind (wpAny_pure ?_)
    rcases go_spec t R.tab.up R.tab.no (fun i => (es[i]?.map (·.1)).getD 0) (thash P w k) (10 * SetTable.turns t.mask) (K - c) _ (dn c _ rfl) (by omega) (fun q hq => by rw [ny]; exact hb _ (by omega)) (by rw [ny, show c + (K - c) = K by omega]; exact hK)
      with ⟨q, i, q1, q2, q3, q4, q5⟩ | ⟨q4, q5⟩
    · rw [ny] at q2
      have pr : t.probe (fun i => (es[i]?.map (·.1)).getD 0) (thash P w k) (stand.getD (t.probeStart (thash P w k))) = some (.candidate (way t.mask (thash P w k) (c + q)) i (nth t.mask (runAt t.mask (SetTable.bits (thash P w k) % (t.mask + 1)) (SetTable.bits (thash P w k))) (c + (q + 1)))) := by
        rw [hst, ← ny, ← nx]; exact q5
      rw [pr]
      dsimp only
      obtain ⟨p, hp⟩ : ∃ p, L[i]? = some p := by
        have h1 := (List.getElem?_eq_some_iff.mp q2).1
        rw [R.tab.len, List.length_map] at h1
        exact ⟨_, List.getElem?_eq_getElem h1⟩
      have hm := List.mem_of_getElem? hp
      have sl := slot_live R.tab.up q2
      have cont : wpAny (model P w) A (searchRest a (.ref x) (thash P w k) true f es t (way t.mask (thash P w k) (c + q)) i (nth t.mask (runAt t.mask (SetTable.bits (thash P w k) % (t.mask + 1)) (SetTable.bits (thash P w k))) (c + (q + 1)))) Q E s := by
        unfold searchRest
        rw [R.at hp]
        dsimp only
        refine wpAny_bind (wpAny_holding (wpAny_eqBool_tuple hu (R.its p hm) hx (wpAny_bind (wpAny_setState_of ho hd R.fit ?_))))
        dsimp only
        by_cases e : p.2 = k
        · exact wp_if_pos (by simp [e]) (wpAny_pure (yes (List.mem_map.mpr ⟨p, hm, e⟩)))
        · refine wp_if_neg (by simp [e]) ?_
          try refine wpAny_bind (wpAny_pure ?_)
          rw [sameMem]
          dsimp only
          simp only [if_true, sl, R.at hp]
          refine wpAny_bind (wpAny_isSame_ref_self (wpAny_bind (wpAny_pure ?_)))
          simp only [if_true]
          refine wp_if_neg (by simp [e]) (R.go hx hu hf hK hb yes nay f (c + (q + 1)) _ rfl (by omega) (by omega) fun i0 p0 h0 k0 => ?_)
          obtain ⟨d, d1, d2, d3⟩ := hre i0 p0 h0 k0
          refine ⟨d, Classical.byContradiction fun z => ?_, d2, d3⟩
          by_cases y : d = c + q
          · have s2 := slot_live R.tab.up (y ▸ d3)
            rw [sl] at s2
            cases s2
            rw [hp] at h0; cases h0
            exact e k0
          · exact q4 (d - c) i0 (by omega) (by rw [ny, show c + (d - c) = d by omega]; exact d3) (hsh i0 p0 h0 k0)
      by_cases hl : t.led = true
      · refine wp_if_neg (by simp [hl]) ?_
        try refine wpAny_bind (wpAny_pure ?_)
        exact cont
      · refine wp_if_pos (by simp [hl]) (wpAny_bind (seen_tup hx (fun y hy => ?_) ?_))
        · obtain ⟨e, he, rfl⟩ := List.mem_map.mp hy
          have he1 : e ∈ es ∧ e.1 = thash P w k := by simpa using he
          have he2 : e ∈ es.toList := by simpa using he1.1
          rw [R.row] at he2
          obtain ⟨p2, hp2, rfl⟩ := List.mem_map.mp he2
          exact ⟨p2.2, p2.1, rfl, R.its p2 hp2⟩
        · refine wp_if_neg (by decide) ?_
          try refine wpAny_bind (wpAny_pure ?_)
          exact cont
    · have pr : t.probe (fun i => (es[i]?.map (·.1)).getD 0) (thash P w k) (stand.getD (t.probeStart (thash P w k))) = some (.empty (way t.mask (thash P w k) K) none) := by
        have e := ny (K - c)
        rw [show c + (K - c) = K by omega] at e
        rw [hst, ← e]; exact q5
      rw [pr]
      dsimp only
      refine wpAny_pure (nay fun hm => ?_)
      obtain ⟨p0, h0, k0⟩ := List.mem_map.mp hm
      obtain ⟨i0, h1⟩ := List.getElem?_of_mem h0
      obtain ⟨d, d1, d2, d3⟩ := hre i0 p0 h1 k0
      exact q4 (d - c) i0 (by omega) (by rw [ny, show c + (d - c) = d by omega]; exact d3) (hsh i0 p0 h1 k0)
theorem STab.find (R : STab P w s.heap a L es ep t) {x : Addr} {k : List Int} (hx : IsT P w s.heap k x) (hu : A.units < cLine) {Q : SetFound → Shared → Prop} (yes : k ∈ L.map (·.2) → Q (.there none) s)
    (nay : ∀ K, k ∉ L.map (·.2) → way t.mask (thash P w k) K ∉ t.place.toList → (∀ c, c < K → way t.mask (thash P w k) c ∈ t.place.toList) → Q (.free (way t.mask (thash P w k) K) false) s) : wpAny (model P w) A (setSearch a (.ref x) (thash P w k) true) Q E s := by
  have hs := R.spc
  have tp := R.tab.msk.top
  obtain ⟨K, k1, k2, k3⟩ := R.tab.hole (by rw [List.length_map]; omega) (thash P w k)
  refine R.go hx hu k1 k2 k3 yes (fun z => nay K z k2 k3) 100000 0 none rfl (Nat.zero_le _) (by unfold SetTable.turns at k1; omega) fun i p hp hk => ?_
  have h1 : i < t.place.toList.length := by rw [R.tab.len, List.length_map]; exact (List.getElem?_eq_some_iff.mp hp).1
  obtain ⟨d, d1, d2⟩ := R.tab.ahead (i := i) k2 (by rw [List.getElem?_map, hp, ← hk]; rfl) (List.getElem?_eq_getElem h1)
  exact ⟨d, Nat.zero_le _, d1, by rw [List.getElem?_eq_getElem h1, d2]⟩
/-- the table laid anew -/
theorem relay_any {o : Obj} (ho : s.heap.get? a = some o) (hex : o.ExactSet) (hd : o.data = .set es ep t) (hr : es.toList = rowsOf P w L) (T : Tab t (L.map fun p => thash P w p.2)) (hfl : L.length ≤ t.mask) (nd : (L.map (·.2)).Nodup) (tu : ∀ p ∈ L, IsT P w s.heap p.2 p.1) (pl : t.plain = true)
    (ld : w.params.followText "set-order" = true ∨ t.led = true) (few : L.length < 1000) {n M : Nat} (hw : SetTable.sizeAbove n - 1 = M) (hM : MK M) (hn : L.length * 5 < M * 3) {Q : Unit → Shared → Prop}
    (hQ : ∀ h' L' es' ep' t', Heap.SameBut a s.heap h' → STab P w h' a L' es' ep' t' → t'.mask = M → L'.Perm L → Q () { s with heap := h' }) : wpAny (model P w) A (setRelay a n) Q E s := by
  have z := rows_len hr
  have tp := hM.top
  obtain ⟨t', order, e, pm, T', em, el, ep'⟩ := hM.relaid t (hs := es.map (·.1)) hw (by rw [Array.size_map, z]; omega)
  rw [Array.size_map, z] at pm
  obtain ⟨L2, r1, r2, r3⟩ := order_rows L es order hr pm
  have z2 : (order.filterMap (es[·]?)).size = es.size := by rw [rows_len r1, r2.length_eq, z]
  rw [setRelay_eq]
  refine wpAny_bind (wpAny_setState_of ho hd (fits_of T (by rw [z, List.length_map]) (by omega)) ?_)
  dsimp only
  refine wp_if_neg (by rw [sizeLine_eq]; omega) ?_
  try refine wpAny_bind (wpAny_pure ?_)
  rw [e]
  dsimp only
  refine wpAny_bind (wp_if_neg (by rw [z2]; simp) ?_)
  try refine wpAny_bind (wpAny_pure ?_)
  refine wpAny_pure ?_
  dsimp only
  have sb := Heap.SameBut.update s.heap a (Obj.putSet (order.filterMap (es[·]?)) t')
  refine wpAny_storeSet_of ho hd (hQ _ L2 _ (ep + 1) t' sb ⟨⟨_, store_at ho hd, hex, rfl⟩, r1, r3 ▸ T', (r2.map _).nodup_iff.mpr nd, fun p hp => isT_same (tu p (r2.mem_iff.mp hp)) ho hd sb, ep'.trans pl, el ▸ ld, by rw [r2.length_eq, em]; exact hn, by rw [r2.length_eq]; exact few⟩ em r2) (by rw [z2, z, sizeLine_eq]; omega)
/-- which size comes when the table is too full -/
theorem next_size {m n : Nat} (h7 : m = 7 ∨ m = 31 ∨ m = 127 ∨ m = 511 ∨ m = 2047) (h1 : n * 5 < m * 3) (h2 : (n + 1) * 5 ≥ m * 3) (h3 : n + 1 < 1000) : ∃ M, SetTable.sizeAbove (SetTable.grown (n + 1)) - 1 = M ∧ (M = 7 ∨ M = 31 ∨ M = 127 ∨ M = 511 ∨ M = 2047) ∧ (n + 1) * 5 < M * 3 := by
  rcases h7 with e | e | e | e | e
  · obtain rfl : n = 4 := by omega
    exact ⟨31, by rw [size_20], by omega, by decide⟩
  · obtain rfl : n = 18 := by omega
    exact ⟨127, by rw [size_76], by omega, by decide⟩
  · obtain rfl : n = 76 := by omega
    exact ⟨511, by rw [size_77], by omega, by decide⟩
  · obtain rfl : n = 306 := by omega
    exact ⟨2047, by rw [size_307], by omega, by decide⟩
  · omega
theorem mk_of {m : Nat} (h : m = 7 ∨ m = 31 ∨ m = 127 ∨ m = 511 ∨ m = 2047) : MK m := by
  rcases h with e | e | e | e | e <;> subst e
  · exact mk7
  · exact mk31
  · exact mk127
  · exact mk511
  · exact mk2047
/-- one is put in, or stands there -/
theorem STab.add (R : STab P w s.heap a L es ep t) (hm5 : t.mask = 7 ∨ t.mask = 31 ∨ t.mask = 127 ∨ t.mask = 511 ∨ t.mask = 2047) {x : Addr} {k : List Int} (hx : IsT P w s.heap k x) (hu : A.units < cLine) (few : L.length + 1 < 1000) {Q : Bool → Shared → Prop}
    (hQ : ∀ b h' L' es' ep' t', Heap.SameBut a s.heap h' → STab P w h' a L' es' ep' t' → (t'.mask = 7 ∨ t'.mask = 31 ∨ t'.mask = 127 ∨ t'.mask = 511 ∨ t'.mask = 2047) → (k ∈ L.map (·.2) → L' = L) → (k ∉ L.map (·.2) → L'.Perm ((x, k) :: L)) → Q b { s with heap := h' }) :
    wpAny (model P w) A (setAddHashed a (.ref x) (thash P w k)) Q E s := by
  obtain ⟨o, ho, hex, hd⟩ := R.obj
  have z := rows_len R.row
  have hs := R.spc
  unfold setAddHashed
  refine wpAny_holding ?_
  rw [show (100000 : Nat) = 99999 + 1 from rfl, setAddHashedIn_succ]
  refine wpAny_bind (wpAny_setState_of ho hd R.fit ?_)
  dsimp only
  refine wp_if_neg (by simp [byScan, Value.scannable]) ?_
  try refine wpAny_bind (wpAny_pure ?_)
  refine wpAny_bind (R.find hx hu (fun hm => ?_) fun K hm hK hb => ?_)
  · dsimp only
    exact wpAny_pure (hQ false s.heap L es ep t (.refl a s.heap) R hm5 (fun _ => rfl) fun y => absurd hm y)
  · dsimp only
    refine wpAny_bind (wpAny_setState_of ho hd R.fit ?_)
    dsimp only
    obtain ⟨b1, b2, b3⟩ := R.tab.add hK hb
    rw [List.length_map] at b1 b3
    have pp : (t.put (way t.mask (thash P w k) K)).2 = SetTable.below t.place (way t.mask (thash P w k) K) := rfl
    have pm : (t.put (way t.mask (thash P w k) K)).1.mask = t.mask := rfl
    have pl : (t.put (way t.mask (thash P w k) K)).1.plain = true := R.pln
    have ld : w.params.followText "set-order" = true ∨ (t.put (way t.mask (thash P w k) K)).1.led = true := R.led
    generalize t.put (way t.mask (thash P w k) K) = pt at b2 b3 pp pm pl ld ⊢
    obtain ⟨t1, p⟩ := pt
    dsimp only at b2 b3 pp pm pl ld ⊢
    subst pp
    generalize SetTable.below t.place (way t.mask (thash P w k) K) = p at b1 b2 ⊢
    first
      | (refine wpAny_bind ?_; refine wp_if_pos pl ?_; refine hashBy_tup hx ?_)
      | refine wp_if_pos pl (wpAny_bind (hashBy_tup hx ?_))
    simp only [if_true]
    have rw1 : (SetTable.insertAt es p (thash P w k, Value.ref x)).toList = rowsOf P w (L.take p ++ (x, k) :: L.drop p) := by rw [SetTable.toList_insertAt, rows_put, R.row]
    rw [← List.map_take, ← List.map_drop, ← List.map_cons (f := fun p : Addr × List Int => thash P w p.2) (a := (x, k)), ← List.map_append] at b2
    have pr := put_perm L p (x, k)
    have z1 := rows_len rw1
    generalize SetTable.insertAt es p (thash P w k, Value.ref x) = es1 at rw1 z1 ⊢
    generalize L.take p ++ (x, k) :: L.drop p = L1 at pr b2 rw1 z1
    have ln : L1.length = L.length + 1 := pr.length_eq
    refine wpAny_bind (wpAny_storeSet_of ho hd ?_ (by rw [z1, ln, sizeLine_eq]; omega))
    have sb := Heap.SameBut.update s.heap a (Obj.putSet es1 t1)
    have ho1 := store_at (es' := es1) (t' := t1) ho hd
    generalize s.heap.update a (Obj.putSet es1 t1) = h1 at sb ho1 ⊢
    have nd1 : (L1.map (·.2)).Nodup := (pr.map (·.2)).nodup_iff.mpr (List.nodup_cons.mpr ⟨hm, R.dif⟩)
    have tu1 : ∀ p ∈ L1, IsT P w h1 p.2 p.1 := fun p hp => by
      rcases List.mem_cons.mp (pr.mem_iff.mp hp) with e | hp
      · exact e ▸ isT_same hx ho hd sb
      · exact isT_same (R.its p hp) ho hd sb
    by_cases full : t1.tooFull = true
    · first
        | (refine wpAny_bind ?_; refine wp_if_pos (by simp [full]) ?_)
        | (refine wp_if_pos (by simp [full]) ?_; refine wpAny_bind ?_)
      have big : (L.length + 1) * 5 ≥ t.mask * 3 := by
        unfold SetTable.tooFull at full
        rw [decide_eq_true_eq, b3, pm] at full
        exact full
      obtain ⟨M, m1, m2, m3⟩ := next_size hm5 hs big few
      rw [z]
      refine relay_any (s := { s with heap := h1 }) ho1 hex rfl rw1 b2 (by rw [ln, pm]; omega) nd1 tu1 pl ld (by omega) m1 (mk_of m2) (by rw [ln]; exact m3) fun h2 L2 es2 ep2 t2 sb2 R2 em2 pm2 => ?_
      have hmk : t2.mask = 7 ∨ t2.mask = 31 ∨ t2.mask = 127 ∨ t2.mask = 511 ∨ t2.mask = 2047 := em2 ▸ m2
      exact wpAny_pure (hQ true h2 L2 es2 ep2 t2 (sb.trans sb2) R2 hmk (fun y => absurd y hm) fun _ => pm2.trans pr)
    · first
        | refine wp_if_neg (by simp [full]) ?_
        | (refine wpAny_bind ?_; refine wp_if_neg (by simp [full]) ?_; refine wpAny_pure ?_)
      have small : (L.length + 1) * 5 < t.mask * 3 := by
        unfold SetTable.tooFull at full
        rw [decide_eq_true_eq, b3, pm] at full
        omega
      exact wpAny_pure (hQ true h1 L1 es1 (ep + 1) t1 sb ⟨⟨_, ho1, hex, rfl⟩, rw1, b2, nd1, tu1, pl, ld, by rw [ln, pm]; exact small, by rw [ln]; exact few⟩ (by rw [pm]; exact hm5) (fun y => absurd y hm) fun _ => pr)
end
end Py
end
section
set_option Elab.async false
set_option linter.all false
set_option autoImplicit false
set_option maxRecDepth 100000
set_option maxHeartbeats 8000000
/-! set(xs), whatever is kept of the set meanwhile. -/
namespace Py
open PySem PySem.Spec PyProof.Rows L2

section
variable {P : Program} {w : World} {A : Around} {E : Value → Shared → Prop} {s : Shared}
/-- what adding must keep: Gd by the heap and the count of items done, behind the heap h0 -/
structure Adds (P : Program) (w : World) (A : Around) (S : Addr) (h0 : Heap) (Ok : Nat → Value → Prop) (Gd : Heap → Nat → Prop) : Prop where
  keep : ∀ (h h' : Heap) (i : Nat), Gd h i → (∀ o, h.get? S = some o → h'.get? S = some o) → (∀ b o, h0.get? b = some o → h'.get? b = some o) → Gd h' i
  add : ∀ (i : Nat) (v : Value) (s : Shared) (E : Value → Shared → Prop) (Q : Bool → Shared → Prop), Ok i v → (∀ b o, h0.get? b = some o → s.heap.get? b = some o) → Gd s.heap i →
    (∀ b h' tk, s.toks ≤ tk → Heap.SameBut S s.heap h' → Gd h' (i + 1) → Q b { s with heap := h', toks := tk }) → wpAny (model P w) A (setAdd S v) Q E s
theorem upd_loop {I : Addr} {fp wr : List Addr} {G : Array GenState → Array GenState → Prop} {n : Nat} {Pv : Nat → Value → Prop} {St : Nat → Shared → Prop} {R : Result → Shared → Prop} {Ok : Nat → Value → Prop} {Gd : Heap → Nat → Prop} {S : Addr} {h0 : Heap}
    (W : WalksS P w A.in1 I fp wr G n Pv St) (hS : S ∉ fp) (D : Adds P w A.in1 S h0 Ok Gd) (hv : ∀ i v, Pv i v → Ok i v) (nS : h0.get? S = none) (nw : ∀ b ∈ wr, h0.get? b = none) :
    ∀ (k i : Nat) (s : Shared), n - i = k → i ≤ n → St i s → (∀ b o, h0.get? b = some o → s.heap.get? b = some o) → Gd s.heap i →
      (∀ s', Moved (S :: wr) G s s' → Gd s'.heap n → (∀ b o, h0.get? b = some o → s'.heap.get? b = some o) → R (.ok (.ret .none)) s') → codeAny (model P w) A (.builtin "set.update.loop" ⟨[.ref S, .ref I], []⟩) R s := by
  have nSw : S ∉ wr := fun z => hS (W.sub _ z)
  have sub : ∀ b ∈ wr, b ∈ S :: wr := fun b z => .tail _ z
  have kp : ∀ {s1 s2 : Shared}, Moved wr G s1 s2 → (∀ b o, h0.get? b = some o → s1.heap.get? b = some o) → ∀ b o, h0.get? b = some o → s2.heap.get? b = some o := fun m q b o e => m.heap b o (fun z => by rw [nw b z] at e; cases e) (q b o e)
  intro k
  induction k with
  | zero =>
    intro i s hk hi st q g hR
    obtain rfl : i = n := by omega
    refine codeAny_builtin F.entry_set_update_loop ?_
    rw [Around.under_plainId F.plain_set_update_loop _]
    show wpAny _ A.in1 (pyNext (.ref I) >>= _) _ _ s
    refine wpAny_bind (W.done s _ _ st fun s' m => ?_)
    exact wpAny_pure (hR s' (m.mono sub) (D.keep _ _ _ g (fun o e => m.heap S o nSw e) (kp m q)) (kp m q))
  | succ k ih =>
    intro i s hk hi st q g hR
    have lt : i < n := by omega
    refine codeAny_builtin F.entry_set_update_loop ?_
    rw [Around.under_plainId F.plain_set_update_loop _]
    show wpAny _ A.in1 (pyNext (.ref I) >>= _) _ _ s
    refine wpAny_bind (W.item i s _ _ lt st fun v s' hP st' m => ?_)
    have q' := kp m q
    show wpAny _ A.in1 (holding [v] (setAdd S v) >>= _) _ _ s'
    refine wpAny_bind (wpAny_holding (D.add i v s' _ _ (hv i v hP) q' (D.keep _ _ _ g (fun o e => m.heap S o nSw e) q') fun b h' tk ht sb g' => ?_))
    have q2 : ∀ b o, h0.get? b = some o → h'.get? b = some o := fun b o e => (sb.2 b fun z => by rw [z, nS] at e; cases e).trans (q' b o e)
    refine wpAny_pure ⟨plainId_quiet F.plain_set_update_loop _, ih (i + 1) _ (by omega) lt (W.frame _ s' _ _ st' ht fun b hb o e => (sb.2 b fun z => hS (z ▸ hb)).trans e) q2 g' fun s2 m2 g2 q3 => ?_⟩
    exact hR s2 (Moved.trans W.gtrans ((m.mono sub).then_heap ht fun b o hb e => (sb.2 b fun z => hb (z ▸ .head _)).trans e) m2) g2 q3
/-- the iterable given to set(..): a list or a tuple -/
def SeqV (T : String) (h : Heap) (l : Addr) (items : Array Value) : Prop := ∃ o, h.get? l = some o ∧ o.cls = .type T ∧ ∃ n, o.data = .seq items n
abbrev setNew (w : World) : Obj := { cls := .type "set", dict := none, data := .set #[] 0 (.fresh 0 0 (!w.params.followText "set-order")) }
theorem call_setL {l : Addr} {items : Array Value} {Ok : Nat → Value → Prop} {Gd : Heap → Nat → Prop} {Q : Value → Shared → Prop} (hh : A.handled = none) (hl : s.heap.IsList l items) (D : ∀ A' : Around, A'.units ≤ A.units + 8 → Adds P w A' s.heap.objs.size s.heap Ok Gd) (hv : ∀ (i : Nat) v, items[i]? = some v → Ok i v)
    (g0 : ∀ h : Heap, h.get? s.heap.objs.size = some (setNew w) → (∀ b o, s.heap.get? b = some o → h.get? b = some o) → Gd h 0)
    (hQ : ∀ (h' : Heap) (tk : Nat), Gd h' items.size → (∀ b o, s.heap.get? b = some o → h'.get? b = some o) → Q (.ref s.heap.objs.size) { s with heap := h', toks := tk }) : wpAny (model P w) A (call (.type "set") [.ref l]) Q E s := by
  obtain ⟨c, tl, hmro⟩ := F.called_set.mro
  have hmade := F.called_set.made
  have hsub := F.called_set.sub
  refine wpAny_call (codeAny_of_tree ?_)
  show wpAny _ _ (callAny (.type "set") _) _ _ _
  refine wpAny_pure ⟨Code.quiet_builtin _ (by decide +kernel), codeAny_builtin F.entry_type_call ?_⟩
  rw [Around.under_plain (weight_type_call_type "set" [.ref l] []) rfl]
  have h1 := F.called_set.notType
  have h2 := F.called_set.canCreate
  have hct := F.typeCall_set_1 (.ref l)
  repeat (any_goals (first | assumption | wp_step))
  refine codeAny_mono (code_set_led1 (.ref l) (E := E) (Q₁ := fun obj s₁ => obj = .ref s.heap.objs.size ∧ s₁ = { s with heap := s.heap.push (setNew w) }) ⟨rfl, rfl⟩) fun r s₁ hr => ?_
  cases r with
  | error e => exact hr
  | ok fl =>
    cases fl with
    | ret obj =>
      obtain ⟨rfl, rfl⟩ := hr
      have hS : (s.heap.push (setNew w)).get? s.heap.objs.size = some (setNew w) := Heap.get?_push_size _ rfl
      have hT : Shared.TypeIs { s with heap := s.heap.push (setNew w) } (.ref s.heap.objs.size) "set" := ⟨_, hS, rfl⟩
      have hli := F.called_set.init.lookup
      have hbi := F.called_set.init.bind (.ref s.heap.objs.size)
      repeat (any_goals (first | assumption | wp_step))
      refine codeAny_mono (codeAny_call_builtin (R := wants (fun r s₂ => r = .none ∧ ∃ h' tk, s₂ = { s with heap := h', toks := tk } ∧ Gd h' items.size ∧ (∀ b o, s.heap.get? b = some o → h'.get? b = some o)) E) F.called_set.init.plain F.entry_set_init (check_set_init_1 hT ?_)) fun r₂ s₂ hr₂ => ?_
      · obtain ⟨ol, hol, hcl, nl, hdl⟩ := hl
        obtain ⟨ocls, odict, odata, oslots⟩ := ol
        simp only at hcl hdl
        subst hcl; subst hdl
        have hol' : (s.heap.push (setNew w)).get? l = some { cls := .type "list", dict := odict, data := .seq items nl, slots := oslots } := Heap.get?_push_of_some _ hol
        have hsls := F.sub_list_set
        have hslf := F.sub_list_frozenset
        have hne : (Value.type "list" == Value.type "dict") = false := by decide
        have hl1 : (s.heap.push (setNew w)).IsList l items := ⟨_, hol', rfl, nl, rfl⟩
        unfold Builtin.«set.__init__» noKeywords Builtin.Frozenset.updateFrom
        generalize hPI : pyIter = PI
        wp_walk
        subst hPI
        refine wpAny_pyIter_list hl1 (wpAny_bind (wpAny_runValue ?_))
        have hlS : l < s.heap.objs.size := Heap.lt_size hol
        have sz : (s.heap.push (setNew w)).objs.size = s.heap.objs.size + 1 := Heap.size_push ..
        have hneI : l ≠ (s.heap.push (setNew w)).objs.size := by rw [sz]; exact Nat.ne_of_lt (Nat.lt_succ_of_lt hlS)
        have no : ∀ b, s.heap.objs.size ≤ b → s.heap.get? b = none := fun b hb => Heap.get?_none_of_le hb
        refine upd_loop (n := items.size) ((Walks.list (by simp [hh]) _ l hneI items).toS) (S := s.heap.objs.size) (by rw [sz]; simp only [List.mem_cons, List.not_mem_nil, or_false, not_or]; exact ⟨Nat.ne_of_lt (Nat.lt_succ_self _), Nat.ne_of_gt hlS⟩) (D _ ?_) (fun i v z => hv i v z) (no _ (Nat.le_refl _)) (fun b hb => no b (by rw [List.mem_singleton.mp hb, sz]; exact Nat.le_succ _))
          (items.size - 0) 0 _ rfl (Nat.zero_le _) ⟨⟨_, Heap.get?_push_size _ rfl, rfl, rfl⟩, (hl1.push _)⟩ (fun b o e => Heap.get?_push_of_some _ (Heap.get?_push_of_some _ e)) (g0 _ (Heap.get?_push_of_some _ hS) fun b o e => Heap.get?_push_of_some _ (Heap.get?_push_of_some _ e)) fun s' m g q => ?_
        · simp
        · obtain ⟨h', g2, d', tk', os'⟩ := s'
          obtain rfl : g2 = s.gens := m.gens
          obtain rfl : d' = s.drawn := m.drawn
          obtain rfl : os' = s.os := m.os
          show wpAny _ _ _ _ _ _
          exact wpAny_pure (wpAny_pure ⟨rfl, h', tk', rfl, g, q⟩)
      · cases r₂ with
        | error e => exact hr₂
        | ok fl₂ =>
          cases fl₂ with
          | ret r =>
            obtain ⟨rfl, h', tk, rfl, g, q⟩ := hr₂
            repeat (any_goals (first | assumption | wp_step))
            exact hQ _ _ g q
          | _ => exact hr₂.elim
    | _ => exact hr.elim
theorem call_setT {l : Addr} {items : Array Value} {Ok : Nat → Value → Prop} {Gd : Heap → Nat → Prop} {Q : Value → Shared → Prop} (hh : A.handled = none) (hl : s.heap.IsTuple l items) (D : ∀ A' : Around, A'.units ≤ A.units + 8 → Adds P w A' s.heap.objs.size s.heap Ok Gd) (hv : ∀ (i : Nat) v, items[i]? = some v → Ok i v)
    (g0 : ∀ h : Heap, h.get? s.heap.objs.size = some (setNew w) → (∀ b o, s.heap.get? b = some o → h.get? b = some o) → Gd h 0)
    (hQ : ∀ (h' : Heap) (tk : Nat), Gd h' items.size → (∀ b o, s.heap.get? b = some o → h'.get? b = some o) → Q (.ref s.heap.objs.size) { s with heap := h', toks := tk }) : wpAny (model P w) A (call (.type "set") [.ref l]) Q E s := by
  obtain ⟨c, tl, hmro⟩ := F.called_set.mro
  have hmade := F.called_set.made
  have hsub := F.called_set.sub
  refine wpAny_call (codeAny_of_tree ?_)
  show wpAny _ _ (callAny (.type "set") _) _ _ _
  refine wpAny_pure ⟨Code.quiet_builtin _ (by decide +kernel), codeAny_builtin F.entry_type_call ?_⟩
  rw [Around.under_plain (weight_type_call_type "set" [.ref l] []) rfl]
  have h1 := F.called_set.notType
  have h2 := F.called_set.canCreate
  have hct := F.typeCall_set_1 (.ref l)
  repeat (any_goals (first | assumption | wp_step))
  refine codeAny_mono (code_set_led1 (.ref l) (E := E) (Q₁ := fun obj s₁ => obj = .ref s.heap.objs.size ∧ s₁ = { s with heap := s.heap.push (setNew w) }) ⟨rfl, rfl⟩) fun r s₁ hr => ?_
  cases r with
  | error e => exact hr
  | ok fl =>
    cases fl with
    | ret obj =>
      obtain ⟨rfl, rfl⟩ := hr
      have hS : (s.heap.push (setNew w)).get? s.heap.objs.size = some (setNew w) := Heap.get?_push_size _ rfl
      have hT : Shared.TypeIs { s with heap := s.heap.push (setNew w) } (.ref s.heap.objs.size) "set" := ⟨_, hS, rfl⟩
      have hli := F.called_set.init.lookup
      have hbi := F.called_set.init.bind (.ref s.heap.objs.size)
      repeat (any_goals (first | assumption | wp_step))
      refine codeAny_mono (codeAny_call_builtin (R := wants (fun r s₂ => r = .none ∧ ∃ h' tk, s₂ = { s with heap := h', toks := tk } ∧ Gd h' items.size ∧ (∀ b o, s.heap.get? b = some o → h'.get? b = some o)) E) F.called_set.init.plain F.entry_set_init (check_set_init_1 hT ?_)) fun r₂ s₂ hr₂ => ?_
      · obtain ⟨ol, hol, hcl, nl, hdl⟩ := hl
        obtain ⟨ocls, odict, odata, oslots⟩ := ol
        simp only at hcl hdl
        subst hcl; subst hdl
        have hol' : (s.heap.push (setNew w)).get? l = some { cls := .type "tuple", dict := odict, data := .seq items nl, slots := oslots } := Heap.get?_push_of_some _ hol
        have hsls := F.sub_tuple_set
        have hslf := F.sub_tuple_frozenset
        have hne : (Value.type "tuple" == Value.type "dict") = false := by decide
        have hl1 : (s.heap.push (setNew w)).IsTuple l items := ⟨_, hol', rfl, nl, rfl⟩
        unfold Builtin.«set.__init__» noKeywords Builtin.Frozenset.updateFrom
        generalize hPI : pyIter = PI
        wp_walk
        subst hPI
        refine wpAny_pyIter_tuple hl1 (wpAny_bind (wpAny_runValue ?_))
        have hlS : l < s.heap.objs.size := Heap.lt_size hol
        have sz : (s.heap.push (setNew w)).objs.size = s.heap.objs.size + 1 := Heap.size_push ..
        have hneI : l ≠ (s.heap.push (setNew w)).objs.size := by rw [sz]; exact Nat.ne_of_lt (Nat.lt_succ_of_lt hlS)
        have no : ∀ b, s.heap.objs.size ≤ b → s.heap.get? b = none := fun b hb => Heap.get?_none_of_le hb
        refine upd_loop (n := items.size) ((Walks.tuple (by simp [hh]) _ l hneI items).toS) (S := s.heap.objs.size) (by rw [sz]; simp only [List.mem_cons, List.not_mem_nil, or_false, not_or]; exact ⟨Nat.ne_of_lt (Nat.lt_succ_self _), Nat.ne_of_gt hlS⟩) (D _ ?_) (fun i v z => hv i v z) (no _ (Nat.le_refl _)) (fun b hb => no b (by rw [List.mem_singleton.mp hb, sz]; exact Nat.le_succ _))
          (items.size - 0) 0 _ rfl (Nat.zero_le _) ⟨⟨_, Heap.get?_push_size _ rfl, rfl, rfl⟩, (hl1.push _)⟩ (fun b o e => Heap.get?_push_of_some _ (Heap.get?_push_of_some _ e)) (g0 _ (Heap.get?_push_of_some _ hS) fun b o e => Heap.get?_push_of_some _ (Heap.get?_push_of_some _ e)) fun s' m g q => ?_
        · simp
        · obtain ⟨h', g2, d', tk', os'⟩ := s'
          obtain rfl : g2 = s.gens := m.gens
          obtain rfl : d' = s.drawn := m.drawn
          obtain rfl : os' = s.os := m.os
          show wpAny _ _ _ _ _ _
          exact wpAny_pure (wpAny_pure ⟨rfl, h', tk', rfl, g, q⟩)
      · cases r₂ with
        | error e => exact hr₂
        | ok fl₂ =>
          cases fl₂ with
          | ret r =>
            obtain ⟨rfl, h', tk, rfl, g, q⟩ := hr₂
            repeat (any_goals (first | assumption | wp_step))
            exact hQ _ _ g q
          | _ => exact hr₂.elim
    | _ => exact hr.elim
end
end Py
end
section
set_option Elab.async false
set_option linter.all false
set_option autoImplicit false
set_option maxRecDepth 100000
/-! Plain: the values of a set in order. -/
namespace Py
open PySem PySem.Spec PyProof.Rows L2

/-- a kind of keys: whole numbers; rows of them as tuples -/
structure KeyD (β : Type) [DecidableEq β] where
  enc : β → D
  le : β → β → Bool
  eqv : ∀ a b, PyData.eqv (enc a) (enc b) = decide (a = b)
  ord : W.dataLe false enc = le
  tr : ∀ a b c, le a b = true → le b c = true → le a c = true
  tot : ∀ a b, (le a b || le b a) = true
  anti : ∀ a b, le a b = true → le b a = true → a = b
def firsts {β : Type} [DecidableEq β] (l : List β) : List β := l.foldl (fun acc d => if acc.contains d then acc else acc ++ [d]) []
section
variable {β : Type} [DecidableEq β]
theorem firsts_go (l : List β) : ∀ acc : List β, acc.Nodup → (l.foldl (fun acc d => if acc.contains d then acc else acc ++ [d]) acc).Nodup ∧ ∀ x, x ∈ l.foldl (fun acc d => if acc.contains d then acc else acc ++ [d]) acc ↔ x ∈ acc ∨ x ∈ l := by
  induction l with
  | nil => exact fun acc h => ⟨h, fun x => by simp⟩
  | cons a l ih =>
    intro acc h
    rw [List.foldl_cons]
    by_cases c : acc.contains a = true
    · rw [if_pos c]
      refine ⟨(ih acc h).1, fun x => ?_⟩
      rw [(ih acc h).2, List.mem_cons]
      have ca := List.contains_iff_mem.mp c
      constructor
      · exact fun z => z.imp id .inr
      · rintro (z | rfl | z)
        · exact .inl z
        · exact .inl ca
        · exact .inr z
    · rw [if_neg c]
      have ca : a ∉ acc := fun z => c (List.contains_iff_mem.mpr z)
      have h' : (acc ++ [a]).Nodup := by
        rw [List.nodup_append]
        refine ⟨h, by simp, fun x hx y hy => ?_⟩
        rw [List.mem_singleton] at hy
        exact fun e => ca (hy ▸ e ▸ hx)
      refine ⟨(ih _ h').1, fun x => ?_⟩
      rw [(ih _ h').2, List.mem_append, List.mem_singleton, List.mem_cons, or_assoc]
theorem firsts_nodup (l : List β) : (firsts l).Nodup := (firsts_go l [] List.nodup_nil).1
theorem mem_firsts (l : List β) (x : β) : x ∈ firsts l ↔ x ∈ l := by
  rw [show x ∈ firsts l ↔ _ from (firsts_go l [] List.nodup_nil).2 x]
  simp
theorem setD_enc (κ : KeyD β) (l : List β) : setD (l.map κ.enc) = (firsts l).map κ.enc := by
  unfold setD firsts
  rw [List.foldl_map]
  have key : ∀ acc : List β, l.foldl (fun acc d => if acc.any (fun e => PyData.eqv e (κ.enc d)) then acc else acc ++ [κ.enc d]) (acc.map κ.enc) = (l.foldl (fun acc d => if acc.contains d then acc else acc ++ [d]) acc).map κ.enc := by
    induction l with
    | nil => exact fun acc => rfl
    | cons a l ih =>
      intro acc
      rw [List.foldl_cons, List.foldl_cons]
      have e : ((acc.map κ.enc).any fun e => PyData.eqv e (κ.enc a)) = acc.contains a := by
        rw [List.any_map, Bool.eq_iff_iff, List.any_eq_true, List.contains_iff_mem]
        constructor
        · rintro ⟨x, hx, z⟩
          have z : PyData.eqv (κ.enc x) (κ.enc a) = true := z
          rw [κ.eqv] at z
          exact of_decide_eq_true z ▸ hx
        · exact fun hx => ⟨a, hx, by show PyData.eqv (κ.enc a) (κ.enc a) = true; rw [κ.eqv]; exact decide_eq_true rfl⟩
      rw [e]
      split
      · exact ih acc
      · rw [← ih (acc ++ [a]), List.map_append]; rfl
  exact key []
theorem sortD_enc (κ : KeyD β) (l : List β) : sortD (l.map κ.enc) = (l.mergeSort κ.le).map κ.enc := by
  unfold sortD
  rw [← κ.ord]
  exact (List.map_mergeSort (f := κ.enc) (r := W.dataLe false κ.enc) (s := W.dataLe false id) (l := l) fun a _ b _ => rfl).symm
/-- one order of the same values -/
theorem sort_one (κ : KeyD β) {l m : List β} (h : l.Perm m) : l.mergeSort κ.le = m.mergeSort κ.le :=
  List.Perm.eq_of_pairwise (fun a b _ _ h1 h2 => κ.anti a b h1 h2) (List.pairwise_mergeSort κ.tr κ.tot l) (List.pairwise_mergeSort κ.tr κ.tot m) ((List.mergeSort_perm l _).trans (h.trans (List.mergeSort_perm m _).symm))
theorem perm_nodup {l m : List β} (hl : l.Nodup) (hm : m.Nodup) (h : ∀ x, x ∈ l ↔ x ∈ m) : l.Perm m := (List.perm_ext_iff_of_nodup hl hm).mpr h
end
def keyI : KeyD Int where
  enc := PyData.int
  le := fun a b => decide (a ≤ b)
  eqv := fun a b => by
    show (a == b) = decide (a = b)
    by_cases h : a = b
    · simp [h]
    · simp [h]
  ord := W.dataLe_int fun x => x
  tr := fun a b c h1 h2 => by simp at *; omega
  tot := fun a b => by simp; omega
  anti := fun a b h1 h2 => by simp at *; omega
theorem eqv_ints : ∀ xs ys : List Int, PyData.eqvAll (xs.map .int) (ys.map .int) = decide (xs = ys)
  | [], [] => rfl
  | [], _ :: _ => rfl
  | _ :: _, [] => rfl
  | x :: xs, y :: ys => by
    show (PyData.eqv (.int x) (.int y) && PyData.eqvAll (xs.map .int) (ys.map .int)) = _
    rw [eqv_ints xs ys, show PyData.eqv (.int x) (.int y) = decide (x = y) from keyI.eqv x y]
    by_cases h : x = y <;> by_cases h2 : xs = ys <;> simp [h, h2]
theorem dataLe_tups {β : Type} (x : β → List Int) : W.dataLe false (fun b => .tuple ((x b).map .int)) = fun p q => decide (x p ≤ x q) := by
  funext p q
  show (!W.dataLt (.tuple ((x q).map .int)) (.tuple ((x p).map .int))) = _
  rw [W.dataLt_tuple]
  show (!W.rowLt ((x q).map .int) ((x p).map .int)) = _
  rw [W.dataLt_ints]
  by_cases h : x q < x p
  · simp [h, show ¬ x p ≤ x q from fun r => List.not_lt.mpr r h]
  · simp [h, show x p ≤ x q from List.not_lt.mp h]
def keyT : KeyD (List Int) where
  enc := fun l => .tuple (l.map .int)
  le := fun a b => decide (a ≤ b)
  eqv := fun a b => eqv_ints a b
  ord := dataLe_tups fun x => x
  tr := fun a b c h1 h2 => by simp only [decide_eq_true_eq] at *; exact List.le_trans h1 h2
  tot := fun a b => by simp only [Bool.or_eq_true, decide_eq_true_eq]; exact List.le_total a b
  anti := fun a b h1 h2 => by simp only [decide_eq_true_eq] at *; exact List.le_antisymm h1 h2
theorem ints_of_all : ∀ {ds : List D}, (ds.all fun d => (intD d).isSome) = true → ∃ ns : List Int, ds = ns.map PyData.int
  | [], _ => ⟨[], rfl⟩
  | d :: ds, h => by
    rw [List.all_cons, Bool.and_eq_true] at h
    obtain ⟨ns, rfl⟩ := ints_of_all h.2
    cases d with
    | int i => exact ⟨i :: ns, rfl⟩
    | _ => cases h.1
theorem ints_of_some : ∀ {ds : List D} {ns : List Int}, intsD ds = some ns → ds = ns.map PyData.int
  | [], ns, h => by cases h; rfl
  | d :: ds, ns, h => by
    cases d with
    | int i =>
      unfold intsD at h
      obtain ⟨ms, h1, h2⟩ := Option.map_eq_some_iff.mp h
      subst h2
      rw [ints_of_some h1]; rfl
    | _ => cases h
theorem tups_of_all : ∀ {ds : List D}, ds.all tupI = true → ∃ ks : List (List Int), ds = ks.map keyT.enc
  | [], _ => ⟨[], rfl⟩
  | d :: ds, h => by
    rw [List.all_cons, Bool.and_eq_true] at h
    obtain ⟨ks, rfl⟩ := tups_of_all h.2
    cases d with
    | tuple es =>
      obtain ⟨ns, e⟩ := Option.isSome_iff_exists.mp (show (intsD es).isSome = true from h.1)
      exact ⟨ns :: ks, by rw [ints_of_some e]; rfl⟩
    | _ => cases h.1
end Py
end
section
set_option Elab.async false
set_option linter.all false
set_option autoImplicit false
set_option maxRecDepth 100000
set_option maxHeartbeats 4000000
/-! sorted(set(xs)). -/
namespace Py
open PySem PySem.Spec PyProof.Rows L2

section
variable {P : Program} {w : World} {A : Around} {S : Addr} {h0 : Heap}
def GdT (P : Program) (w : World) (S : Addr) (ks : List (Addr × List Int)) (h : Heap) (i : Nat) : Prop :=
  ∃ L es ep t, STab P w h S L es ep t ∧ (t.mask = 7 ∨ t.mask = 31 ∨ t.mask = 127 ∨ t.mask = 511 ∨ t.mask = 2047) ∧ Got ks i L
theorem adds_tups {ks : List (Addr × List Int)} (hk : ∀ p ∈ ks, IsT P w h0 p.2 p.1) (few : ks.length < 1000) (nS : h0.get? S = none) (hu : A.units < cLine) : Adds P w A S h0 (fun i v => ∃ p, ks[i]? = some p ∧ v = .ref p.1) (GdT P w S ks) where
  keep := fun h h' i ⟨L, es, ep, t, R, m, g⟩ k1 k2 => by
    obtain ⟨o, ho, q⟩ := R.obj
    exact ⟨L, es, ep, t, ⟨⟨o, k1 o ho, q⟩, R.row, R.tab, R.dif, fun p hp => isT_keep (hk p (List.mem_of_mem_take (g.sub p hp))) k2, R.pln, R.led, R.spc, R.few⟩, m, g⟩
  add := fun i v s E Q ⟨p, hp, e⟩ k2 ⟨L, es, ep, t, R, m, g⟩ hQ => by
    subst e
    have hx : IsT P w s.heap p.2 p.1 := isT_keep (hk p (List.mem_of_getElem? hp)) k2
    have hi : i < ks.length := (List.getElem?_eq_some_iff.mp hp).1
    unfold setAdd
    refine wpAny_holding (wpAny_bind (wpAny_pyHash_tuple hu hx ?_))
    refine STab.add (s := { s with toks := s.toks + (p.2.length + 1) }) R m hx hu (by have := g.len; omega) fun b h' L' es' ep' t' sb R' m' c1 c2 => hQ b h' _ (Nat.le_add_right _ _) sb ⟨L', es', ep', t', R', m', ?_⟩
    by_cases c : p.2 ∈ L.map (·.2)
    · rw [c1 c]; exact g.same hp c
    · exact g.more hp (c2 c)
def GdI (w : World) (S : Addr) (ns : List Int) (h : Heap) (i : Nat) : Prop := ∃ c, c ≤ i ∧ SetR w h S (fun j => decide (j ∈ ns.take i)) c
theorem adds_ints {ns : List Int} (few : ns.length < 1000) : Adds P w A S h0 (fun i v => ∃ k t, ns[i]? = some k ∧ v = .int k t) (GdI w S ns) where
  keep := fun h h' i ⟨c, hc, R⟩ k1 _ => ⟨c, hc, R.at k1⟩
  add := fun i v s E Q ⟨k, tk, hk, e⟩ k2 ⟨c, hc, R⟩ hQ => by
    subst e
    have hi : i < ns.length := (List.getElem?_eq_some_iff.mp hk).1
    have e2 : ns.take (i + 1) = ns.take i ++ [k] := by rw [List.take_add_one, hk]; rfl
    unfold setAdd
    refine wpAny_holding (wpAny_bind ((intKind P w).pyHash (intKind_is P w k tk) ?_))
    refine setR_add_hashed (s := { s with toks := s.toks + 1 }) R (by unfold scanBound; omega) fun h' sb R' => hQ _ h' _ (Nat.le_succ _) sb ⟨_, ?_, R'.congr fun j => ?_⟩
    · split <;> omega
    · rw [e2]
      by_cases h1 : j ∈ ns.take i <;> by_cases h2 : j = k <;> simp [h1, h2]
theorem fresh_tups {h : Heap} {ks : List (Addr × List Int)} (ho : h.get? S = some (setNew w)) : GdT P w S ks h 0 := by
  refine ⟨[], #[], 0, _, ⟨⟨_, ho, ⟨rfl, rfl, rfl⟩, rfl⟩, rfl, ⟨List.Pairwise.nil, rfl, rfl, mk7, fun x hx => (nomatch hx), fun i h j hi => by simp at hi⟩, List.nodup_nil, fun p hp => (nomatch hp), rfl, ?_, (by show 0 * 5 < 7 * 3; decide), (by decide : (0 : Nat) < 1000)⟩, .inl rfl, Got.zero ks⟩
  show _ ∨ (!w.params.followText "set-order") = true
  cases w.params.followText "set-order"
  · exact .inr rfl
  · exact .inl rfl
end
/-! ### the values, plainly -/
def decI : D → Int
  | .int i => i
  | _ => 0
def decT : D → List Int
  | .tuple es => (intsD es).getD []
  | _ => []
theorem intsD_map : ∀ ns : List Int, intsD (ns.map PyData.int) = some ns
  | [] => rfl
  | n :: ns => by show (intsD (ns.map PyData.int)).map (n :: ·) = _; rw [intsD_map ns]; rfl
theorem decT_enc (l : List Int) : decT (keyT.enc l) = l := by
  show (intsD (l.map PyData.int)).getD [] = l
  rw [intsD_map]; rfl
theorem perm_dec {β : Type} [DecidableEq β] (κ : KeyD β) (dec : D → β) (hd : ∀ x, dec (κ.enc x) = x) {l : List β} {ds : List D} (h : ds.Perm (l.map κ.enc)) : ∃ m : List β, ds = m.map κ.enc ∧ m.Perm l := by
  have e : ds = (ds.map dec).map κ.enc := by
    rw [List.map_map]
    refine ((List.map_congr_left fun x hx => ?_).trans (List.map_id ds)).symm
    obtain ⟨y, _, rfl⟩ := List.mem_map.mp (h.mem_iff.mp hx)
    show κ.enc (dec (κ.enc y)) = id (κ.enc y)
    rw [hd]; rfl
  refine ⟨ds.map dec, e, ?_⟩
  have q := h.map dec
  rw [List.map_map] at q
  refine q.trans (List.Perm.of_eq ?_)
  exact (List.map_congr_left fun x _ => hd x).trans (List.map_id l)
theorem setD_facts {β : Type} [DecidableEq β] (κ : KeyD β) (dec : D → β) (hd : ∀ x, dec (κ.enc x) = x) (l : List β) : (∀ ds', ds'.Perm (setD (l.map κ.enc)) → sortD ds' = sortD (setD (l.map κ.enc))) ∧ ∀ x ∈ setD (l.map κ.enc), x ∈ l.map κ.enc := by
  rw [setD_enc]
  refine ⟨fun ds' h => ?_, fun x hx => ?_⟩
  · obtain ⟨m, rfl, pm⟩ := perm_dec κ dec hd h
    rw [sortD_enc, sortD_enc, sort_one κ pm]
  · obtain ⟨y, hy, rfl⟩ := List.mem_map.mp hx
    exact List.mem_map.mpr ⟨y, (mem_firsts l y).mp hy, rfl⟩
theorem set_facts {ds : List D} (h : setOk ds = true) : (∀ ds', ds'.Perm (setD ds) → sortD ds' = sortD (setD ds)) ∧ ∀ x ∈ setD ds, x ∈ ds := by
  unfold setOk at h
  rw [Bool.and_eq_true, Bool.or_eq_true] at h
  rcases h.2 with h | h
  · obtain ⟨ns, rfl⟩ := ints_of_all h
    exact setD_facts keyI decI (fun _ => rfl) ns
  · obtain ⟨ks, rfl⟩ := tups_of_all h
    exact setD_facts keyT decT decT_enc ks
theorem sortOk_set {ds ds' : List D} (h : sortOk ds = true) (hk : setOk ds = true) (hp : ds'.Perm (setD ds)) : sortOk ds' = true := by
  have hs : ∀ d ∈ ds', d ∈ ds := fun d hd => (set_facts hk).2 d (hp.mem_iff.mp hd)
  have h0 := h
  simp only [sortOk, Bool.and_eq_true, Bool.or_eq_true, List.all_eq_true] at h ⊢
  refine ⟨⟨fun x hx y hy => h.1.1 x (hs x hx) y (hs y hy), fun x hx => h.1.2 x (hs x hx)⟩, ?_⟩
  rcases h.2 with q | q
  · exact .inl fun x hx => q x (hs x hx)
  · exact .inr fun x hx => q x (hs x hx)
section
variable {tt : TTs} {X : Cx} {a : Expr} {ma : Fr → Out R} {p ps pt pi : Pos}
/-- the values of a set, in whatever order they come -/
structure SetV (X : Cx) (N : Addr → Prop) (H : Hp) (h : Heap) (S : Addr) (ds : List D) : Prop where
  ex : ∃ (es : Array (Int × Value)) (ep : Nat) (t : SetTable), SetAt h S es ep t ∧ t.fits es.size = true ∧ es.size < scanBound ∧ Ris t.place.toList ∧ (X.w.params.followText "set-order" = true ∨ t.led = true) ∧
    ∀ out : List Value, out.Perm (es.toList.map (·.2)) → ∃ ds', W.EachIs (StD X.K N H) out ds' ∧ ds'.Perm (setD ds)
theorem rel_tups {K : W.Frag} {N : Addr → Prop} {H : Hp} : ∀ {kss : List (List Int)} {vs : List V}, RelL K N H (kss.map keyT.enc) vs → ∃ ks : List (Addr × List Int), vs = ks.map (fun p => V.ref p.1) ∧ ks.map (·.2) = kss ∧ ∀ p ∈ ks, SqT K H p.1 (p.2.map V.int)
  | [], _, .nil => ⟨[], rfl, rfl, fun p h => nomatch h⟩
  | k :: kss, _, .cons r t => by
    obtain ⟨ks, e1, e2, e3⟩ := rel_tups t
    cases r with
    | tup h1 h2 =>
      rename_i b us
      have e := rel_ints (intsD_map k) h2
      subst e
      exact ⟨(b, k) :: ks, by rw [e1]; rfl, by rw [List.map_cons, e2], List.forall_mem_cons.mpr ⟨h1, e3⟩⟩
theorem each_good {K : W.Frag} {N : Addr → Prop} {H : Hp} : ∀ (l : List (Int × Value)), (∀ e ∈ l, GoodE e) → W.EachIs (StD K N H) (l.map (·.2)) ((l.map keyOf).map PyData.int)
  | [], _ => .nil
  | e :: l, h => by
    obtain ⟨k, tk, e1, _⟩ := h e List.mem_cons_self
    refine .cons ⟨.int (keyOf e), ?_, .int _⟩ (each_good l fun x hx => h x (List.mem_cons_of_mem _ hx))
    have ek : keyOf e = k := by unfold keyOf; rw [e1]
    rw [ek]
    exact ⟨tk, e1⟩
theorem each_rows {K : W.Frag} {N : Addr → Prop} {H : Hp} : ∀ (l : List (Addr × List Int)), (∀ p ∈ l, SqT K H p.1 (p.2.map V.int)) → W.EachIs (StD K N H) (l.map fun p => Value.ref p.1) (l.map fun p => keyT.enc p.2)
  | [], _ => .nil
  | p :: l, h => .cons ⟨.ref p.1, rfl, .tup (h p List.mem_cons_self) (rel_intL p.2)⟩ (each_rows l fun x hx => h x (List.mem_cons_of_mem _ hx))
where
  rel_intL {K : W.Frag} {N : Addr → Prop} {H : Hp} : ∀ ns : List Int, RelL K N H (ns.map PyData.int) (ns.map V.int)
    | [] => .nil
    | n :: ns => .cons (.int n) (rel_intL ns)
/-- a set of ints, told -/
theorem setv_ints {N : Addr → Prop} {H : Hp} {h : Heap} {S : Addr} {ns : List Int} {c : Nat} (R : SetR X.w h S (fun j => decide (j ∈ ns)) c) : SetV X N H h S (ns.map PyData.int) := by
  obtain ⟨o, es, ep, t, ho, hex, hd, g, nd, hm, hb, hf, _, hr, hl⟩ := R
  refine ⟨es, ep, t, ⟨o, ho, hex.1, hd⟩, hf, hb, hr, hl, fun out pm => ?_⟩
  obtain ⟨ds', p1, p2⟩ := each_perm pm.symm (each_good (K := X.K) (N := N) (H := H) es.toList g)
  refine ⟨ds', p2, p1.symm.trans ?_⟩
  rw [show setD (ns.map PyData.int) = (firsts ns).map PyData.int from setD_enc keyI ns]
  exact (perm_nodup nd (firsts_nodup ns) fun x => by rw [mem_firsts, ← hm x, decide_eq_true_eq]).map _
theorem setv_tups {N : Addr → Prop} {H : Hp} {s : Shared} {S : Addr} {ks : List (Addr × List Int)} (hk : ∀ p ∈ ks, SqT X.K H p.1 (p.2.map V.int)) (G : GdT X.prog X.w S ks s.heap ks.length) : SetV X N H s.heap S ((ks.map (·.2)).map keyT.enc) := by
  obtain ⟨L, es, ep, t, R, m, g⟩ := G
  obtain ⟨o, ho, hex, hd⟩ := R.obj
  have few := R.few
  rw [← rows_len R.row] at few
  have gs : ∀ p ∈ L, p ∈ ks := fun p hp => List.mem_of_mem_take (g.sub p hp)
  have e1 : es.toList.map (·.2) = L.map fun p => Value.ref p.1 := by rw [R.row]; unfold rowsOf; rw [List.map_map]; rfl
  refine ⟨es, ep, t, ⟨o, ho, hex.1, hd⟩, R.fit, by unfold scanBound; omega, R.tab.up, R.led, fun out pm => ?_⟩
  rw [e1] at pm
  obtain ⟨ds', p1, p2⟩ := each_perm pm.symm (each_rows (K := X.K) (N := N) (H := H) L fun p hp => hk p (gs p hp))
  refine ⟨ds', p2, p1.symm.trans ?_⟩
  rw [setD_enc, show (L.map fun p => keyT.enc p.2) = (L.map (·.2)).map keyT.enc by rw [List.map_map]; rfl]
  refine (perm_nodup R.dif (firsts_nodup _) fun x => ?_).map _
  rw [mem_firsts]
  constructor
  · intro hx
    obtain ⟨p, hp, rfl⟩ := List.mem_map.mp hx
    exact List.mem_map.mpr ⟨p, gs p hp, rfl⟩
  · intro hx
    obtain ⟨p, hp, rfl⟩ := List.mem_map.mp hx
    exact g.all p (by rw [List.take_length]; exact hp)
/-- the set is made -/
theorem set_made {pins : List (Addr × Obj)} {σ : L2.St} {H : Hp} {s : Shared} {N : Addr → Prop} {d : D} {ds : List D} {x : V} {u : Value} {Q : Value → Shared → Prop} {E : Value → Shared → Prop} (hc : X.calm = true) (hu : X.A.units + 64 < cLine) (I : Inv X pins σ H s) (hx : RelT X.K N H d x) (ru : RelV x u) (hi : itemsD d = some ds) (hk : setOk ds = true)
    (h : ∀ h' tk, (∀ b o, s.heap.get? b = some o → h'.get? b = some o) → SetV X N H h' s.heap.objs.size ds → Q (.ref s.heap.objs.size) { s with heap := h', toks := tk }) : wpAny (model X.prog X.w) X.A (call (.type "set") [u]) Q E s := by
  obtain ⟨l, vs, rfl, hq, rl⟩ := items_rel hx hi
  cases ru
  have hh := I.ok.hd hc
  have nS : s.heap.get? s.heap.objs.size = none := Heap.get?_none_of_le (Nat.le_refl _)
  have both : ∀ {Ok : Nat → Value → Prop} {Gd : Heap → Nat → Prop}, (∀ A' : Around, A'.units ≤ X.A.units + 8 → Adds X.prog X.w A' s.heap.objs.size s.heap Ok Gd) → (∀ its : List Value, Vals vs its → ∀ (i : Nat) v, its[i]? = some v → Ok i v) →
      (∀ h : Heap, h.get? s.heap.objs.size = some (setNew X.w) → (∀ b o, s.heap.get? b = some o → h.get? b = some o) → Gd h 0) →
      (∀ (h' : Heap) (tk : Nat), Gd h' vs.length → (∀ b o, s.heap.get? b = some o → h'.get? b = some o) → Q (.ref s.heap.objs.size) { s with heap := h', toks := tk }) → wpAny (model X.prog X.w) X.A (call (.type "set") [.ref l]) Q E s := fun {Ok Gd} D hv g0 hQ => by
    rcases hq with hq | hq
    · obtain ⟨its, rv, pl, hz⟩ := I.list hq
      exact call_setL hh pl.isList D (fun i v e => hv its rv i v (by simpa using e)) g0 fun h' tk g k => hQ h' tk (by rw [List.size_toArray, ← rv.length] at g; exact g) k
    · obtain ⟨its, rv, pl, hz⟩ := I.tuple hq
      exact call_setT hh pl D (fun i v e => hv its rv i v (by simpa using e)) g0 fun h' tk g k => hQ h' tk (by rw [List.size_toArray, ← rv.length] at g; exact g) k
  unfold setOk at hk
  rw [Bool.and_eq_true, Bool.or_eq_true, decide_eq_true_eq] at hk
  rcases hk.2 with q | q
  · obtain ⟨ns, rfl⟩ := ints_of_all q
    have e := rel_ints (intsD_map ns) rl
    subst e
    have few : ns.length < 1000 := by simpa using hk.1
    refine both (Gd := GdI X.w s.heap.objs.size ns) (fun A' _ => adds_ints few) (fun its rv i v hv => ?_) (fun h ho _ => ⟨0, Nat.le_refl _, setR_new_at ho⟩) fun h' tk g k => ?_
    · have hlt : i < ns.length := by have := (List.getElem?_eq_some_iff.mp hv).1; rw [← rv.length] at this; simpa using this
      obtain ⟨y, hy, ry⟩ := rv.get (i := i) (by rw [List.getElem?_map, List.getElem?_eq_getElem hlt]; rfl)
      rw [hv] at hy; cases hy
      obtain ⟨tk, rfl⟩ := ry
      exact ⟨ns[i], tk, List.getElem?_eq_getElem hlt, rfl⟩
    · obtain ⟨c, _, R⟩ := g
      rw [List.length_map, List.take_length] at R
      exact h h' tk k (setv_ints R)
  · obtain ⟨kss, rfl⟩ := tups_of_all q
    obtain ⟨ks, rfl, rfl, hsq⟩ := rel_tups rl
    have few : ks.length < 1000 := by simpa using hk.1
    refine both (Gd := GdT X.prog X.w s.heap.objs.size ks) (fun A' hA => adds_tups (fun p hp => I.isT (hsq p hp)) few nS (by omega)) (fun its rv i v hv => ?_) (fun h ho _ => fresh_tups ho) fun h' tk g k => ?_
    · rw [refs_of_vals rv, List.getElem?_map] at hv
      obtain ⟨p, hp, e⟩ := Option.map_eq_some_iff.mp hv
      exact ⟨p, hp, e.symm⟩
    · rw [List.length_map] at g
      exact h h' tk k (setv_tups (s := { s with heap := h', toks := tk }) hsq g)
theorem se_sset (hc : X.calm = true) (hu : X.A.units + 64 < cLine) (hg : Gl X "sorted") (hm : X.mg "sorted" = none) (hg2 : Gl X "set") (hm2 : X.mg "set" = none) (ha : PE X a (T tt X.K ma)) (hs : starEach [a] X.env = (false, eval a X.env) :: starEach [] X.env) :
    PE X (.Call (.Name "sorted" ps) [.Call (.Name "set" pt) [a] [] pi] [] p) (T tt X.K fun ρ => (ma ρ).bind fun x ρ => ask ((x.look ρ).bind ssetM) ρ) := by
  refine ⟨fun pins s σ H Q I h => ?_⟩
  obtain ⟨G, ρ, hs', S, h⟩ := h
  refine wpAny_Call_Name_kw (ld_blt I hg hm boot_sorted ?_ (by decide) (by decide))
  refine PyProof.Rows.callWith_builtin1 (args_cons (Call_ (ld_blt I hg2 hm2 PyProof.Rows.boot_set (PyProof.Rows.callWith_type1 (L2.one_arg ha I (T.ask S (bind_split FinR.no h)) (fun v s1 x H1 I1 r1 q1 => ?_) hs) hs))) rfl) rfl rfl
  obtain ⟨rx, ρ1, S1, a1, h1⟩ := q1
  obtain ⟨r, er, h2⟩ := h1.asked
  obtain ⟨d, ed, et⟩ := Option.bind_eq_some_iff.mp er
  have rt := S1.look (r := rx) (fun p hp => List.mem_append_left _ hp) a1 ed
  unfold ssetM at et
  cases hi : itemsD d with
  | none => rw [hi] at et; cases et
  | some ds =>
    rw [hi] at et
    dsimp only at et
    split at et
    case isFalse => cases et
    rename_i hb
    rw [Bool.and_eq_true] at hb
    cases et
    refine set_made hc hu I1 rt r1 hi hb.2 fun h' tk k V => args_nil ?_
    obtain ⟨es, ep, t, w1, w2, w3, w4, w5, w6⟩ := V.ex
    have hin : X.A.in1.in1.units + 50 < cLine := by show X.A.units + 1 + 1 + 50 < cLine; omega
    refine sorted_shell (args_sorted1 _) (fun _ => args_list_sort _) ?_
    refine collect_set (A := X.A.in1) (s := { s1 with heap := h', toks := tk }) (I1.ok.hd hc) w1 w2 w3 w4 w5 fun s2 out k2 hz g2 o2 pm => ?_
    obtain ⟨ds', e1, e2⟩ := w6 out pm
    have hl : out.length ≤ sizeLine := by rw [pm.length_eq, List.length_map, Array.length_toList]; exact fits_of_scanBound w3
    refine ⟨hl, fun E' => sort_new (s1 := s2) I1 o2 g2 (fun b u z => k2 b u (k b u z)) ?_ e1 (sortOk_set hb.1 hb.2 e2) hin hl (fun q ws hq rw' => ?_) E'⟩
    · refine Nat.le_trans ?_ hz
      obtain ⟨o, ho, _⟩ := w1
      exact Nat.le_of_lt (Heap.lt_size ho)
    · rw [(set_facts hb.2).1 ds' e2] at rw'
      obtain ⟨S3, a3⟩ := S1.res (r := .new (sortD (setD ds))) (res_new hq rw')
      exact h2 _ _ S3 a3
end
end Py
end
section
set_option Elab.async false
set_option linter.all false
set_option autoImplicit false
set_option maxRecDepth 100000
set_option maxHeartbeats 8000000
/-! The meaning of every term holds. -/
namespace Py
open PySem PySem.Spec PyProof.Rows L2

theorem bind_ret {α : Type} (o : Out α) : (o.bind fun x ρ => Out.ok x ρ) = o := by cases o <;> rfl
section
variable {tt : TTs} {Φ : Fx} {kf : Nat}
theorem pt_no {X : Cx} {e : Expr} : PT X e (TB tt X.K fun _ => .no) := ⟨fun _ _ _ _ _ _ ⟨_, _, _, _, h⟩ => h.elim⟩
theorem At.nd' {C : Ck} {X : Cx} (A : At tt Φ kf C X) : X.N.Nodup := by rw [A.nm]; exact A.nd
theorem At.hi {C : Ck} {X : Cx} (A : At tt Φ kf C X) {i : Nat} {x : Str} (h : C.N[i]? = some x) : X.N[i]? = some x := by rw [A.nm]; exact h
theorem At.tgB {C : Ck} {X : Cx} (A : At tt Φ kf C X) {sc : Scope} {t : Tg} (h : tgOk { C with sc := sc } t = true) : ∃ g, PutOk X.K t.slots g t.put ∧ ∀ (s : Shared) (H : Hp) (Cc : Addr) (cl : List (Str × Addr)) (fp : List Addr), PG (X.blk s H sc (compEnvC sc cl Cc X.env) fp) t.toX g := by
  have key : ∀ {i x}, Ck.tg { C with sc := sc } i x = true → C.N[i]? = some x ∧ ∀ (s : Shared) (H : Hp) (Cc : Addr) (cl : List (Str × Addr)) (fp : List Addr), Loc (relS sc X.env.scope) x ∧ ((X.blk s H sc (compEnvC sc cl Cc X.env) fp).fn x = true ∨ (relS sc X.env.scope).names.lookup x = some .local) := fun {i x} h => by
    unfold Ck.tg at h
    rw [Bool.and_eq_true, decide_eq_true_eq] at h
    refine ⟨h.1, fun s H Cc cl fp => ?_⟩
    rcases locB_loc h.2 with q | q
    · have e : (relS sc X.env.scope).names.lookup x = some .local := by rw [relS_lookup, show sc.names.lookup x = some .local from q]; rfl
      exact ⟨.inl e, .inr e⟩
    · have e : (relS sc X.env.scope).names.lookup x = some .cell := by rw [relS_lookup, show sc.names.lookup x = some .cell from q]; rfl
      refine ⟨.inr e, .inl ?_⟩
      show (sc.names.lookup x == some .cell) = true
      rw [show sc.names.lookup x = some .cell from q]; rfl
  cases t with
  | nm i x p =>
    have q := key (i := i) (x := x) h
    exact ⟨_, put_nm, fun s H Cc cl fp => sg_nm (X := X.blk s H sc (compEnvC sc cl Cc X.env) fp) (p := p) A.nd' (A.hi q.1) (q.2 s H Cc cl fp).1 (q.2 s H Cc cl fp).2⟩
  | row ts k p =>
    have h : (ts.all fun t => Ck.tg { C with sc := sc } t.1 t.2.1) = true := h
    rw [List.all_eq_true] at h
    exact ⟨_, put_row, fun s H Cc cl fp => sg_row (X := X.blk s H sc (compEnvC sc cl Cc X.env) fp) A.calm A.nd' fun t ht => ⟨A.hi (key (h t ht)).1, ((key (h t ht)).2 s H Cc cl fp).1, ((key (h t ht)).2 s H Cc cl fp).2⟩⟩
theorem notb {a : Bool} (h : (!a) = true) : a = false := by cases a with
  | true => cases h
  | false => rfl
theorem se_nt {X : Cx} {a : Expr} {ma : Fr → Out R} {p : Pos} (ha : PE X a (T tt X.K ma)) : PE X (.UnaryOp .Not a p) (T tt X.K fun ρ => (ma ρ).bind fun x ρ => ask (((x.look ρ).bind truthD).map fun b => .dt (.bool (!b))) ρ) :=
  pe_imp (pe_notT ha) fun σ H Q ⟨G, ρ, hs, S, h⟩ => by
    refine T.mono (T.ask S (bind_split FinR.no h)) fun x H1 ⟨rx, ρ1, S1, a1, h1⟩ => ?_
    obtain ⟨r, er, h2⟩ := h1.asked
    obtain ⟨k, ek, rfl⟩ := Option.map_eq_some_iff.mp er
    obtain ⟨d, ed, et⟩ := Option.bind_eq_some_iff.mp ek
    refine ⟨k, tru_rel (S1.look (r := rx) (fun p hp => List.mem_append_left _ hp) a1 ed) et, ?_⟩
    exact h2 _ _ (S1.drops.push_dt (.bl _)) trivial
theorem star_S (a : Expr) (q : Pos) (r : List Expr) (env : Env) : starEach (.Starred a q :: r) env = (true, eval a env) :: starEach r env := by rw [starEach]
theorem and2 {a b : Bool} (h : (a && b) = true) : a = true ∧ b = true := by rwa [Bool.and_eq_true] at h
theorem rg_rel {K : W.Frag} {N : Addr → Prop} {H : Hp} (f : Nat → Int) : ∀ l : List Nat, RelL K N H (l.map fun i => PyData.int (f i)) (l.map fun i => V.int (f i))
  | [] => .nil
  | i :: l => .cons (.int _) (rg_rel f l)
theorem se_lrng {X : Cx} {a : Expr} {ma : Fr → Out R} {pl pr pi p : Pos} (hc : X.calm = true) (hg : Gl X "list") (hm : X.mg "list" = none) (hg2 : Gl X "range") (hm2 : X.mg "range" = none) (ha : PE X a (T tt X.K ma)) (hs : starEach [a] X.env = (false, eval a X.env) :: starEach [] X.env) :
    PE X (.Call (.Name "list" pl) [.Call (.Name "range" pr) [a] [] pi] [] p) (T tt X.K fun ρ => (ma ρ).bind fun x ρ => ask ((x.look ρ).bind lrngM) ρ) :=
  pe_imp (pe_listRg hc hg hm (prg_1 hg2 hm2 ha hs) rfl) fun σ H Q ⟨G, ρ, hs, S, h⟩ => by
    refine T.mono (T.ask S (bind_split FinR.no h)) fun x H1 ⟨rx, ρ1, S1, a1, h1⟩ => ?_
    obtain ⟨r, er, h2⟩ := h1.asked
    obtain ⟨d, ed, et⟩ := Option.bind_eq_some_iff.mp er
    have rt := S1.look (r := rx) (fun p hp => List.mem_append_left _ hp) a1 ed
    unfold lrngM at et
    split at et
    · rename_i j
      obtain ⟨⟨b1, b2, b3⟩, rfl⟩ := iteS et
      obtain rfl := rt.int
      have e0 : j - 0 = j := Int.sub_zero j
      refine ⟨j, rfl, ⟨by decide, by decide, b1, b2, by rw [e0]; exact b3⟩, fun q hq => ?_⟩
      have e1 : rgV 0 j = (List.range j.toNat).map fun (i : Nat) => V.int (i : Int) := by
        unfold rgV
        rw [e0]
        exact List.map_congr_left fun i _ => by rw [Int.zero_add]
      rw [e1]
      obtain ⟨S2, a2⟩ := S1.res (r := .new ((List.range j.toNat).map fun (i : Nat) => PyData.int (i : Int))) (res_new hq (rg_rel (fun i => (i : Int)) _))
      exact h2 _ _ S2 a2
    · cases et
mutual
theorem sE : ∀ (e : E) (tt : TTs) (X : Cx) (C : Ck), At tt Φ kf C X → okE C e = true → PE X e.toX (T tt X.K (ev Φ e))
  | .var i x p, tt, X, C, A, h => by
    obtain ⟨h1, h2, h3, h4⟩ := A.vr (i := i) (x := x) h
    exact se_var h1 h2 h3 h4
  | .int n k p, tt, X, C, A, h => se_int
  | .bl b k p, tt, X, C, A, h => se_bl
  | .non k p, tt, X, C, A, h => se_non
  | .str s k p, tt, X, C, A, h => se_str
  | .glI x n p, tt, X, C, A, h => by
    unfold okE at h
    obtain ⟨h, h3⟩ := and2 h
    obtain ⟨h1, h2⟩ := and2 h
    obtain ⟨t, ht⟩ := A.gis x n (List.contains_iff_mem.mp h2)
    exact se_glI (A.gl h1) ht (notb h3)
  | .bin op a b p, tt, X, C, A, h => by
    unfold okE at h
    exact se_bin (sE a tt X C A (and2 h).1) (sE b tt X C A (and2 h).2)
  | .neg a p, tt, X, C, A, h => by
    unfold okE at h
    exact se_neg (sE a tt X C A h)
  | .nt a p, tt, X, C, A, h => by
    unfold okE at h
    exact se_nt (sE a tt X C A h)
  | .bo c a r p, tt, X, C, A, h => by
    unfold okE at h
    obtain ⟨h, h3⟩ := and2 h
    exact sBo r c _ _ p tt X C A (and2 h).2 h3 (sE a tt X C A (and2 h).1)
  | .cmp op a b p, tt, X, C, A, h => by
    unfold okE at h
    obtain ⟨h, h3⟩ := and2 h
    exact se_cmp A.units (sE a tt X C A (and2 h).1) (sE b tt X C A (and2 h).2) (notb h3)
  | .cmp2 o1 o2 a b c p, tt, X, C, A, h => by
    unfold okE at h
    obtain ⟨h, h4⟩ := and2 h
    obtain ⟨h, h3⟩ := and2 h
    exact se_cmp2 A.units (sE a tt X C A (and2 h).1) (sE b tt X C A (and2 h).2) (sE c tt X C A h3) (notb h4)
  | .ife c a b p, tt, X, C, A, h => by
    unfold okE at h
    obtain ⟨h, h3⟩ := and2 h
    exact se_ife (sT c tt X C A (and2 h).1) (sE a tt X C A (and2 h).2) (sE b tt X C A h3)
  | .tup es k p, tt, X, C, A, h => by
    unfold okE at h
    exact se_tup (sEs es tt X C A h)
  | .lst es p, tt, X, C, A, h => by
    unfold okE at h
    exact se_lst (sEs es tt X C A h)
  | .call f x px .nil p, tt, X, C, A, h => by
    unfold okE at h
    simp [Es.isNil] at h
  | .call f x px (.star a q r) p, tt, X, C, A, h => by
    unfold okE at h
    simp [Es.plain] at h
  | .call f x px (.cons a r) p, tt, X, C, A, h => by
    unfold okE at h
    obtain ⟨h, h4⟩ := and2 h
    obtain ⟨h, _⟩ := and2 h
    obtain ⟨h1, h2⟩ := and2 h
    obtain ⟨g1, g2, ad, fd, ps, g3, g4, g5, g6⟩ := A.fn h1
    exact se_call g6 A.tk A.room A.gd g1 g3 g4 g5 (sRs (.cons a r) tt X C A h4 h2) g2 (star_E a r.toX X.env) (plain_Es r h2 X.env p) fun ρ rs ρ' e => evr_len Φ (.cons a r) ρ ρ' rs e
  | .b1 b px a p, tt, X, C, A, h => by
    unfold okE at h
    obtain ⟨h1, h2⟩ := and2 h
    exact se_b1 A.calm A.units (A.bl h1).1 (A.bl h1).2 (sE a tt X C A h2) (star_E a [] X.env)
  | .b2 b px a c p, tt, X, C, A, h => by
    unfold okE at h
    obtain ⟨h, h3⟩ := and2 h
    obtain ⟨h1, h2⟩ := and2 h
    exact se_b2 A.calm (A.bl h1).1 (A.bl h1).2 (sE a tt X C A h2) (sE c tt X C A h3) (star_E a [c.toX] X.env) (star_E c [] X.env)
  | .isi px a t pt p, tt, X, C, A, h => by
    unfold okE at h
    obtain ⟨h, h3⟩ := and2 h
    obtain ⟨h1, h2⟩ := and2 h
    exact se_isi (A.bl h1).1 (A.bl h1).2 (A.bl h2).1 (A.bl h2).2 (sE a tt X C A h3) (star_E a _ X.env)
  | .lrng pl pr a pi p, tt, X, C, A, h => by
    unfold okE at h
    obtain ⟨h, h3⟩ := and2 h
    obtain ⟨h1, h2⟩ := and2 h
    exact se_lrng A.calm (A.bl h1).1 (A.bl h1).2 (A.bl h2).1 (A.bl h2).2 (sE a tt X C A h3) (star_E a [] X.env)
  | .sset ps pt a pi p, tt, X, C, A, h => by
    unfold okE at h
    obtain ⟨h, h3⟩ := and2 h
    obtain ⟨h1, h2⟩ := and2 h
    exact se_sset A.calm A.units (A.bl h1).1 (A.bl h1).2 (A.bl h2).1 (A.bl h2).2 (sE a tt X C A h3) (star_E a [] X.env)
  | .skey px a pk f x pf p, tt, X, C, A, h => by
    unfold okE at h
    obtain ⟨h, h4⟩ := and2 h
    obtain ⟨h, h3⟩ := and2 h
    obtain ⟨h1, h2⟩ := and2 h
    obtain ⟨g1, g2, ad, fd, ps, g3, g4, g5, g6⟩ := A.fn h3
    exact se_skey g6 ((A.rkey (.inl h1)).mono (Nat.le_succ _)) A.gd g5 g1 g3 g2 (A.bl h2).1 (A.bl h2).2 (sE a tt X C A h4) (star_E a [] X.env)
  | .slam px a pk i x pa b sc pl p, tt, X, C, A, h => by
    unfold okE at h
    obtain ⟨h, h6⟩ := and2 h
    obtain ⟨h, h5⟩ := and2 h
    obtain ⟨h, h4⟩ := and2 h
    obtain ⟨h, h3⟩ := and2 h
    obtain ⟨h1, h2⟩ := and2 h
    obtain ⟨c, P, l1, l2, l3, l4⟩ := A.lam h1
    exact se_slam l1 l2 l3 l4 (by rw [A.sc]; exact lamP_by h3) A.nd' (A.hi (of_decide_eq_true h4)) (A.rkey (.inr h1)) (fun s H f c' => sE b _ _ _ (A.lamC h1 sc s H f c') h6) (A.bl h2).1 (A.bl h2).2 (sE a tt X C A h5) (star_E a [] X.env)
  | .app i x px pa a p, tt, X, C, A, h => by
    unfold okE at h
    obtain ⟨h, h3⟩ := and2 h
    obtain ⟨h1, h2⟩ := and2 h
    obtain ⟨g1, g2, g3, g4⟩ := A.vr h1
    exact se_app g1 g2 g3 g4 (sd_esc (sE a tt X C A h2)) (star_E a [] X.env) h3
  | .ext i x px pa a p, tt, X, C, A, h => by
    unfold okE at h
    obtain ⟨h, h3⟩ := and2 h
    obtain ⟨h1, h2⟩ := and2 h
    obtain ⟨g1, g2, g3, g4⟩ := A.vr h1
    exact se_ext g1 g2 g3 g4 (sd_esc (sE a tt X C A h2)) (star_E a [] X.env) h3
  | .pop i x px pa a p, tt, X, C, A, h => by
    unfold okE at h
    obtain ⟨h, h3⟩ := and2 h
    obtain ⟨h1, h2⟩ := and2 h
    obtain ⟨g1, g2, g3, g4⟩ := A.vr h1
    exact se_pop g1 g2 g3 g4 (sd_esc (sE a tt X C A h2)) (star_E a [] X.env) h3
  | .idx a b p, tt, X, C, A, h => by
    unfold okE at h
    exact se_idx (sE a tt X C A (and2 h).1) (sE b tt X C A (and2 h).2) (plainIx_E b)
  | .slo a b ps p, tt, X, C, A, h => by
    unfold okE at h
    exact se_slo (sE a tt X C A (and2 h).1) (sE b tt X C A (and2 h).2)
  | .shi a b ps p, tt, X, C, A, h => by
    unfold okE at h
    exact se_shi (sE a tt X C A (and2 h).1) (sE b tt X C A (and2 h).2)
  | .comp elt t src none sc own p, tt, X, C, A, h => by
    unfold okE at h
    obtain ⟨h, h5⟩ := and2 h
    obtain ⟨h, h4⟩ := and2 h
    obtain ⟨h, h3⟩ := and2 h
    obtain ⟨h1, h2⟩ := and2 h
    obtain ⟨g, hp, hg⟩ := A.tgB h3
    exact se_comp A.calm A.nd' (sSr src t tt X C A h1) (by rw [A.nm, A.sc]; exact blkOk_by h2) hp (fun i hi => List.contains_iff_mem.mp (List.all_eq_true.mp h4 i hi)) hg (fun s H Cc cl fp => pts_yes) (fun s H Cc cl fp => sd_esc (sE elt _ _ _ (A.blk sc s H Cc cl fp) h5)) (folded_Sr src X.env)
  | .comp elt t src (some c) sc own p, tt, X, C, A, h => by
    unfold okE at h
    obtain ⟨h, h6⟩ := and2 h
    obtain ⟨h, h5⟩ := and2 h
    obtain ⟨h, h4⟩ := and2 h
    obtain ⟨h, h3⟩ := and2 h
    obtain ⟨h1, h2⟩ := and2 h
    obtain ⟨g, hp, hg⟩ := A.tgB h3
    exact se_comp A.calm A.nd' (sSr src t tt X C A h1) (by rw [A.nm, A.sc]; exact blkOk_by h2) hp (fun i hi => List.contains_iff_mem.mp (List.all_eq_true.mp h4 i hi)) hg (fun s H Cc cl fp => pts_one (sT c _ _ _ (A.blk sc s H Cc cl fp) h6)) (fun s H Cc cl fp => sd_esc (sE elt _ _ _ (A.blk sc s H Cc cl fp) h5)) (folded_Sr src X.env)
  | .fnv x a p, tt, X, C, A, h => by
    unfold okE at h
    obtain ⟨h, h3⟩ := and2 h
    obtain ⟨h1, h2⟩ := and2 h
    exact se_fnv (A.gl h1) (A.fas x a (List.contains_iff_mem.mp h2)) (notb h3)
  | .callv i x px tb .nil p, tt, X, C, A, h => by
    unfold okE at h
    simp [Es.isNil] at h
  | .callv i x px tb (.star a q r) p, tt, X, C, A, h => by
    unfold okE at h
    simp [Es.plain] at h
  | .callv i x px tb (.cons a r) p, tt, X, C, A, h => by
    unfold okE at h
    obtain ⟨h, h5⟩ := and2 h
    obtain ⟨h, h4⟩ := and2 h
    obtain ⟨h, _⟩ := and2 h
    obtain ⟨h1, h2⟩ := and2 h
    obtain ⟨g1, g2, g3, g4⟩ := A.vr h1
    refine se_callv (np := (Es.cons a r).len) (fun e he => ?_) A.tk A.room A.gd g1 g2 (sRs (.cons a r) tt X C A h4 h2) g3 g4 (star_E a r.toX X.env) (plain_Es r h2 X.env p) fun ρ rs ρ' e => evr_len Φ (.cons a r) ρ ρ' rs e
    obtain ⟨q1, q2⟩ := and2 (List.all_eq_true.mp h5 e he)
    obtain ⟨ad, fd, ps, z1, z2, z3, z4⟩ := A.fns _ _ _ (List.contains_iff_mem.mp q1)
    have z5 := A.fas _ _ (List.contains_iff_mem.mp q2)
    rw [z1] at z5
    cases z5
    exact ⟨fd, ps, z4, z2, z3⟩
  | .isx px a x c pt p, tt, X, C, A, h => by
    unfold okE at h
    obtain ⟨h, h3⟩ := and2 h
    obtain ⟨h1, h2⟩ := and2 h
    obtain ⟨g1, g2, g3⟩ := A.cl h2
    exact se_isx g3.isc g3.isk (A.bl h1).1 (A.bl h1).2 g1 g3.g g2 (sE a tt X C A h3) (star_E a _ X.env)
  | .attr Cs a p, tt, X, C, A, h => by
    unfold okE at h
    obtain ⟨h, h3⟩ := and2 h
    obtain ⟨h1, h2⟩ := and2 h
    exact se_attr (fun c hc => (A.clN h2 c hc).elim fun _ q => ⟨q.xf, q.no⟩) (sE a tt X C A h3) (base_VI a h1 _ _ _)
  | .rep px a p, tt, X, C, A, h => by
    unfold okE at h
    obtain ⟨h1, h2⟩ := and2 h
    exact se_rep A.gd A.units (A.bl h1).1 (A.bl h1).2 (sE a tt X C A h2) (star_E a [] X.env)
  | .rept a b p, tt, X, C, A, h => by
    unfold okE at h
    exact se_rept (sE a tt X C A (and2 h).1) (sE b tt X C A (and2 h).2)
  | .trng pl pr a pi p, tt, X, C, A, h => by
    unfold okE at h
    obtain ⟨h, h3⟩ := and2 h
    obtain ⟨h1, h2⟩ := and2 h
    exact se_trng A.calm (A.bl h1).1 (A.bl h1).2 (A.bl h2).1 (A.bl h2).2 (sE a tt X C A h3) (star_E a [] X.env)
  | .heard Cs px b sc pl p, tt, X, C, A, h => by
    unfold okE at h
    obtain ⟨h, h6⟩ := and2 h
    obtain ⟨h, h5⟩ := and2 h
    obtain ⟨h, h4⟩ := and2 h
    obtain ⟨h, h3⟩ := and2 h
    obtain ⟨h1, h2⟩ := and2 h
    obtain ⟨c, P, l1, l2, l3, l4⟩ := A.lam h1
    obtain ⟨g, CS, pg, dV, kV, doc, pm, cdv, ct, oc, an, od, osl, p1, p2, p3, p4, p5, p6, p7, q1, q2, q3, q4, r1, r2, r3, r4, r5, r6, t1, t2, t3, t4, z1, z2, z3, z4, z5, z6⟩ := (A.hrd h3).ex
    refine pe_imp (pe_heard (t := fun E => T ⟨tt.ts, E⟩ X.K fun ρ => ev Φ b ρ) (A.gl h2) z1 z2 z3 z4 rfl rfl z5 z6 l1 l2 l3 l4 (A.rkey (.inr h1)) (by rw [A.sc]; exact LamX.lamS_by h5) rfl (fun _ _ _ _ _ => bind_none) A.gd fun Ar outer s H E f c' hg hr => sE b _ _ _ (A.heardC sc hg hr) h6) fun σ H Q hh => heard_imp (fun c hc => ?_) hh
    obtain ⟨x, q⟩ := A.clN h4 c hc
    obtain ⟨CS', w1, w2⟩ := q.up
    rw [z3] at w1
    cases w1
    exact w2
theorem sBo : ∀ (r : Es) (c : Bool) (aX : Expr) (ma : Fr → Out R) (p : Pos) (tt : TTs) (X : Cx) (C : Ck), At tt Φ kf C X → okEs C r = true → r.plain = true → PE X aX (T tt X.K ma) → PE X (.BoolOp (boOp c) (aX :: r.toX) p) (T tt X.K fun ρ => (ma ρ).bind fun x ρ => evBo Φ c r x ρ)
  | .nil, c, aX, ma, p, tt, X, C, A, h, hp, ha => by
    have e : (fun ρ => (ma ρ).bind fun x ρ => evBo Φ c .nil x ρ) = ma := funext fun ρ => bind_ret (ma ρ)
    rw [e]
    exact se_boOne c ha
  | .cons b r, c, aX, ma, p, tt, X, C, A, h, hp, ha => by
    unfold okEs at h
    exact se_boCons c ha (sBo r c b.toX (ev Φ b) p tt X C A (and2 h).2 hp (sE b tt X C A (and2 h).1))
  | .star .., c, aX, ma, p, tt, X, C, A, h, hp, ha => nomatch hp
theorem sEs : ∀ (es : Es) (tt : TTs) (X : Cx) (C : Ck), At tt Φ kf C X → okEs C es = true → PA X es.toX (TL tt X.K (evs Φ es))
  | .nil, tt, X, C, A, h => sl_nil
  | .cons a r, tt, X, C, A, h => by
    unfold okEs at h
    exact sl_cons (sd_esc (sE a tt X C A (and2 h).1)) (sEs r tt X C A (and2 h).2) (star_E a r.toX X.env)
  | .star a q r, tt, X, C, A, h => by
    unfold okEs at h
    exact sl_star (sd_esc (sE a tt X C A (and2 h).1)) (sEs r tt X C A (and2 h).2) (star_S a.toX q r.toX X.env)
theorem sRs : ∀ (es : Es) (tt : TTs) (X : Cx) (C : Ck), At tt Φ kf C X → okEs C es = true → es.plain = true → PA X es.toX (TR tt X.K (evr Φ es))
  | .nil, tt, X, C, A, h, hp => sr_nil
  | .cons a r, tt, X, C, A, h, hp => by
    unfold okEs at h
    exact sr_cons (sE a tt X C A (and2 h).1) (sRs r tt X C A (and2 h).2 hp) (star_E a r.toX X.env)
  | .star .., tt, X, C, A, h, hp => nomatch hp
theorem sSr : ∀ (s : Sr) (t : Tg) (tt : TTs) (X : Cx) (C : Ck), At tt Φ kf C X → okSr C (isRow t) s = true → PI X t.toX s.toX (TIm tt X.K (evSr Φ s))
  | .e a, t, tt, X, C, A, h => by
    unfold okSr at h
    exact si_e (sE a tt X C A h)
  | .rng px a p, t, tt, X, C, A, h => by
    unfold okSr at h
    exact si_rng (A.bl (and2 h).1).1 (A.bl (and2 h).1).2 (sE a tt X C A (and2 h).2) (star_E a [] X.env)
  | .zip px a b p, t, tt, X, C, A, h => by
    unfold okSr at h
    obtain ⟨h, h4⟩ := and2 h
    obtain ⟨h, h3⟩ := and2 h
    obtain ⟨h1, h2⟩ := and2 h
    cases t with
    | nm i x p => cases h1
    | row ts k q => exact si_zip (A.bl h2).1 (A.bl h2).2 (sE a tt X C A h3) (sE b tt X C A h4) (star_E a [b.toX] X.env) (star_E b [] X.env)
  | .enm px a p, t, tt, X, C, A, h => by
    unfold okSr at h
    obtain ⟨h, h3⟩ := and2 h
    obtain ⟨h1, h2⟩ := and2 h
    cases t with
    | nm i x p => cases h1
    | row ts k q => exact si_enm (A.bl h2).1 (A.bl h2).2 (sE a tt X C A h3) (star_E a [] X.env)
theorem sT : ∀ (e : E) (tt : TTs) (X : Cx) (C : Ck), At tt Φ kf C X → okE C e = true → PT X e.toX (TB tt X.K (tst Φ e))
  | .nt a p, tt, X, C, A, h => by
    unfold okE at h
    exact st_not (sT a tt X C A h)
  | .bo c a r p, tt, X, C, A, h => by
    unfold okE at h
    obtain ⟨h, h3⟩ := and2 h
    exact (sTb r c _ _ p tt X C A (and2 h).2 h3 (sT a tt X C A (and2 h).1)).pt
  | .cmp op a b p, tt, X, C, A, h => by
    unfold okE at h
    obtain ⟨h, h3⟩ := and2 h
    exact st_cmp A.units (sE a tt X C A (and2 h).1) (sE b tt X C A (and2 h).2) (notb h3)
  | .cmp2 o1 o2 a b c p, tt, X, C, A, h => by
    unfold okE at h
    obtain ⟨h, h4⟩ := and2 h
    obtain ⟨h, h3⟩ := and2 h
    exact st_cmp2 A.units (sE a tt X C A (and2 h).1) (sE b tt X C A (and2 h).2) (sE c tt X C A h3) (notb h4)
  | .var i x p, tt, X, C, A, h => st_val (sE (.var i x p) tt X C A h) fun _ => rfl
  | .bl b k p, tt, X, C, A, h => st_val (sE (.bl b k p) tt X C A h) fun _ => rfl
  | .call f x px es p, tt, X, C, A, h => st_val (sE (.call f x px es p) tt X C A h) fun _ => rfl
  | .b1 b px a p, tt, X, C, A, h => st_val (sE (.b1 b px a p) tt X C A h) fun _ => rfl
  | .isi px a t pt p, tt, X, C, A, h => st_val (sE (.isi px a t pt p) tt X C A h) fun _ => rfl
  | .isx px a x c pt p, tt, X, C, A, h => st_val (sE (.isx px a x c pt p) tt X C A h) fun _ => rfl
  | .fnv .., tt, X, C, A, h => pt_no
  | .callv .., tt, X, C, A, h => pt_no
  | .attr .., tt, X, C, A, h => pt_no
  | .rep .., tt, X, C, A, h => pt_no
  | .rept .., tt, X, C, A, h => pt_no
  | .trng .., tt, X, C, A, h => pt_no
  | .heard .., tt, X, C, A, h => pt_no
  | .int .., tt, X, C, A, h => pt_no
  | .non .., tt, X, C, A, h => pt_no
  | .str .., tt, X, C, A, h => pt_no
  | .glI .., tt, X, C, A, h => pt_no
  | .bin .., tt, X, C, A, h => pt_no
  | .neg .., tt, X, C, A, h => pt_no
  | .ife .., tt, X, C, A, h => pt_no
  | .tup .., tt, X, C, A, h => pt_no
  | .lst .., tt, X, C, A, h => pt_no
  | .b2 .., tt, X, C, A, h => pt_no
  | .lrng .., tt, X, C, A, h => pt_no
  | .sset .., tt, X, C, A, h => pt_no
  | .skey .., tt, X, C, A, h => pt_no
  | .slam .., tt, X, C, A, h => pt_no
  | .app .., tt, X, C, A, h => pt_no
  | .ext .., tt, X, C, A, h => pt_no
  | .pop .., tt, X, C, A, h => pt_no
  | .idx .., tt, X, C, A, h => pt_no
  | .slo .., tt, X, C, A, h => pt_no
  | .shi .., tt, X, C, A, h => pt_no
  | .comp .., tt, X, C, A, h => pt_no
theorem sTb : ∀ (r : Es) (c : Bool) (aX : Expr) (ma : Fr → Out Bool) (p : Pos) (tt : TTs) (X : Cx) (C : Ck), At tt Φ kf C X → okEs C r = true → r.plain = true → PT X aX (TB tt X.K ma) → PW X (.BoolOp (boOp c) (aX :: r.toX) p) (TB tt X.K fun ρ => (ma ρ).bind fun x ρ => tstBo Φ c r x ρ)
  | .nil, c, aX, ma, p, tt, X, C, A, h, hp, ha => by
    have e : (fun ρ => (ma ρ).bind fun x ρ => tstBo Φ c .nil x ρ) = ma := funext fun ρ => bind_ret (ma ρ)
    rw [e]
    exact sw_one c ha
  | .cons b r, c, aX, ma, p, tt, X, C, A, h, hp, ha => by
    unfold okEs at h
    exact sw_cons c ha (sTb r c b.toX (tst Φ b) p tt X C A (and2 h).2 hp (sT b tt X C A (and2 h).1))
  | .star .., c, aX, ma, p, tt, X, C, A, h, hp, ha => nomatch hp
end
end
end Py
end
section
set_option Elab.async false
set_option linter.all false
set_option autoImplicit false
set_option maxRecDepth 100000
set_option maxHeartbeats 8000000
/-! The meaning of every statement holds. -/
namespace Py
open PySem PySem.Spec PyProof.Rows L2

/-- is the name stored as its comprehension ends -/
def swB (sc : Scope) (x : Str) (px : Pos) : E → Bool
  | .comp _ _ _ _ s _ p => decide (sc.names.lookup x = some .local) && (px.line == p.line) && !(s.names.any fun (n, k) => n == x && (k == .local || k == .cell))
  | _ => false
def isComp : E → Bool
  | .comp .. => true
  | _ => false
def isTup : E → Bool
  | .tup .. => true
  | _ => false
/-- the stores of a pair are swapped -/
def parB (sc : Scope) (x y : Str) (px py : Pos) (a b : E) : Bool :=
  decide (sc.names.lookup x = some .local) && decide (sc.names.lookup y = some .local) && (py.line == px.line) && !(x == y) && !((foldedForSure 8 a.toX) && (foldedForSure 8 b.toX)) && !((constantsAlone 8 a.toX) && (constantsAlone 8 b.toX))
def notLoc (sc : Scope) (x : Str) : Bool := !decide (sc.names.lookup x = some .local)
mutual
def okS (C : Ck) : S → Bool
  | .asg i x px e _ => C.tg i x && okE C e
  | .par i x px j y py _ _ a b _ _ _ => decide (C.N[i]? = some x) && decide (C.N[j]? = some y) && !(decide (i = j)) && okE C a && okE C b && parB C.sc x y px py a b
  | .unp ts _ _ (.tup es _ _) _ => (ts.all fun t => C.tg t.1 t.2.1) && okE C (.tup es 0 ⟨0, 0, 0, 0⟩) && (ts.any fun t => notLoc C.sc t.2.1)
  | .unp ts _ _ e _ => (ts.all fun t => C.tg t.1 t.2.1) && okE C e
  | .six i x _ ix _ e _ => C.vr i x && okE C ix && okE C e
  | .ret e _ => okE C e
  | .exp e _ => okE C e && !isComp e
  | .iff c a b _ => okE C c && okSs C a && okSs C b
  | .for_ t src body _ => tgOk C t && okSr C (isRow t) src && okSs C body
  | .wh c body _ => okE C c && okSs C body
  | .pass _ => true
  | .brk _ => true
  | .cont _ => true
  | .rse x c _ e _ _ => C.key && C.cl x c && okE C e
  | .nev _ => true
def okSs (C : Ck) : Ss → Bool
  | .nil => true
  | .cons s r => okS C s && okSs C r
end
/-- a def's own context -/
structure AtS (tt : TTs) (Φ : Fx) (kf : Nat) (C : Ck) (X : Cx) : Prop extends At tt Φ kf C X where
  pass : PassesOwn (model X.prog X.w) X.A X.env X.xe
  fnT : ∀ x, X.fn x = true
  kind : X.env.scope.kind = .function

theorem sw_plain (e : E) (h : isComp e = false) (tg : Option Expr) (l : Nat) (env : Env) : swapsWith e.toX tg l env = pure false := by
  cases e with
  | comp elt t src ifs sc own p => cases h
  | _ => rfl
theorem sole_sub (e : E) (o ix : Expr) (q : Pos) (l : Nat) (env : Env) : swapsWithSole [.Subscript o ix q] e.toX l env = pure false := by
  cases e with
  | comp elt t src ifs sc own p => cases ifs <;> rfl
  | _ => rfl
theorem sole_tup (e : E) (ts : List Expr) (k : Nat) (q : Pos) (l : Nat) (env : Env) : swapsWithSole [.Tuple ts k q] e.toX l env = pure false := by
  cases e with
  | comp elt t src ifs sc own p => cases ifs <;> rfl
  | _ => rfl
theorem stores_E (e : E) (h : isTup e = false) (ts : List Expr) (k : Nat) (q : Pos) (env : Env) : swappedStores [.Tuple ts k q] e.toX env = pure none := by
  cases e with
  | tup es k p => cases h
  | comp elt t src ifs sc own p => cases ifs <;> rfl
  | _ => rfl
theorem sub_asg (b : E) (x : Str) (px ps : Pos) (env : Env) (v : Value) : assign (.Subscript (.Name x px) b.toX ps) env v = (do
      let ov ← holding [v] (eval (.Name x px) env)
      let iv ← holding [v, ov] (eval b.toX env)
      standAt ps
      holding [v, ov, iv] (setItem ov iv v)
      release [v, ov, iv] []) := by
  cases b with
  | comp elt t src ifs sc own p => cases ifs <;> rfl
  | _ => rfl
theorem sw_comp {env : Env} (hk : env.scope.kind = .function) (x : Str) (px : Pos) (l : Nat) (e : E) : swapsWith e.toX (some (.Name x px)) l env = pure (swB env.scope x px e) := by
  cases e with
  | comp elt t src ifs sc own p =>
    have hb : env.blockKind = .function := by unfold Env.blockKind; rw [hk]; rfl
    have key : ∀ gs, swapsWith (.ListComp elt.toX gs sc p) (some (.Name x px)) l env = pure (swB env.scope x px (.comp elt t src ifs sc own p)) := fun gs => by
      unfold swapsWith
      simp only [hb, Expr.pos, swB, Env.kindOf]
      have e1 : ((env.scope.names.lookup x == some NameKind.local) : Bool) = decide (env.scope.names.lookup x = some NameKind.local) := by
        by_cases q : env.scope.names.lookup x = some NameKind.local
        · rw [q]; rfl
        · rw [decide_eq_false q]
          cases w : env.scope.names.lookup x with
          | none => rfl
          | some k => cases k <;> first | rfl | exact absurd w q
      rw [e1]
      rfl
    cases ifs with
    | none => exact key _
    | some c => exact key _
  | _ => rfl
theorem stores_par {sc : Scope} {env : Env} (hs : env.scope = sc) (hk : env.scope.kind = .function) {x y : Str} {px py pt p2 : Pos} {kt k2 : Nat} {a b : E} (h : parB sc x y px py a b = true) :
    swappedStores [.Tuple [.Name x px, .Name y py] kt pt] (.Tuple [a.toX, b.toX] k2 p2) env = pure (some [x, y]) := by
  subst hs
  unfold parB at h
  simp only [Bool.and_eq_true, decide_eq_true_eq, Bool.not_eq_true'] at h
  obtain ⟨⟨⟨⟨⟨h1, h2⟩, h3⟩, h4⟩, h5⟩, h6⟩ := h
  have hb : env.blockKind = .function := by unfold Env.blockKind; rw [hk]; rfl
  have k1 : env.kindOf x = some .local := h1
  have k2 : env.kindOf y = some .local := h2
  have st : ∀ e : E, (match e.toX with | .Starred .. => true | _ => false) = false := fun e => by
    cases e with
    | comp elt t src ifs sc own p => cases ifs <;> rfl
    | _ => rfl
  have hxy : ([x, y] : List Str).eraseDups = [x, y] := by
    rw [List.eraseDups_cons]
    have hyx : (y == x) = false := by
      cases q : y == x with
      | false => rfl
      | true =>
        have e := beq_iff_eq.mp q
        subst e
        simp at h4
    simp [hyx, List.eraseDups_cons]
  unfold swappedStores
  simp only [hb, k1, k2, List.length_cons, List.length_nil, List.any_cons, List.any_nil, st, List.head?_cons, Option.map_some, Option.getD_some, Expr.pos, List.filterMap_cons, List.filterMap_nil, h3, List.all_cons, List.all_nil]
  simp only [Bool.and_true, h5, h6, hxy]
  simp [hxy]
  intro hh
  rcases hh with hh | hh
  · exact absurd ((st a).symm.trans hh) (by decide)
  · exact absurd ((st b).symm.trans hh) (by decide)
theorem stores_none {env : Env} {ts : List (Nat × Str × Pos)} {v : Expr} {k : Nat} {p : Pos} (h : (ts.any fun t => notLoc env.scope t.2.1) = true) : swappedStores [(Tg.row ts k p).toX] v env = pure none := by
  have key : ∀ (l : Nat) (us : List (Nat × Str × Pos)), ((us.map fun t => Expr.Name t.2.1 t.2.2).filterMap fun | .Name id pos => if env.kindOf id == some .local && pos.line == l then some id else none | _ => none).length ≤ us.length ∧
      ((us.any fun t => notLoc env.scope t.2.1) = true → ((us.map fun t => Expr.Name t.2.1 t.2.2).filterMap fun | .Name id pos => if env.kindOf id == some .local && pos.line == l then some id else none | _ => none).length < us.length) := by
    intro l us
    induction us with
    | nil => exact ⟨Nat.le_refl _, fun h => nomatch h⟩
    | cons t us ih =>
      simp only [List.map_cons, List.filterMap_cons, List.any_cons, List.length_cons]
      have hn : notLoc env.scope t.2.1 = true → (env.kindOf t.2.1 == some NameKind.local) = false := fun q => by
        unfold notLoc at q
        have q := of_decide_eq_false (notb q)
        cases w : env.kindOf t.2.1 with
        | none => rfl
        | some z => cases z <;> first | rfl | exact absurd w q
      constructor
      · split
        · exact Nat.le_succ_of_le ih.1
        · exact Nat.succ_le_succ ih.1
      · intro h
        rcases (Bool.or_eq_true _ _).mp h with h | h
        · rw [hn h]
          exact Nat.lt_succ_of_le ih.1
        · split
          · exact Nat.lt_succ_of_lt (ih.2 h)
          · exact Nat.succ_lt_succ (ih.2 h)
  unfold swappedStores Tg.toX
  split
  · rename_i us vs hu
    have e : us = ts.map fun t => Expr.Name t.2.1 t.2.2 := by
      split at hu
      · rename_i h1; cases hu; cases h1; rfl
      · rename_i h1; cases h1
      · cases hu
    subst e
    split
    · rfl
    · split
      · rfl
      · dsimp only
        refine if_pos ?_
        rw [Bool.or_eq_true]
        left
        rw [bne_iff_ne, List.length_map]
        exact Nat.ne_of_lt ((key _ ts).2 h)
  · rfl
end Py
end
section
set_option Elab.async false
set_option linter.all false
set_option autoImplicit false
set_option maxRecDepth 100000
set_option maxHeartbeats 8000000
/-! The meaning of every statement holds. -/
namespace Py
open PySem PySem.Spec PyProof.Rows L2

section
variable {tt : TTs} {Φ : Fx} {kf : Nat} {io : List Nat}
theorem AtS.tgN {C : Ck} {X : Cx} (A : AtS tt Φ kf C X) {i : Nat} {x : Str} (h : C.tg i x = true) : X.N[i]? = some x ∧ Loc X.env.scope x := by
  unfold Ck.tg at h
  rw [Bool.and_eq_true, decide_eq_true_eq] at h
  exact ⟨A.hi h.1, by rw [A.sc]; exact locB_loc h.2⟩
theorem AtS.row {C : Ck} {X : Cx} (A : AtS tt Φ kf C X) {ts : List (Nat × Str × Pos)} {k : Nat} {p : Pos} (h : (ts.all fun t => C.tg t.1 t.2.1) = true) : PG X (Tg.row ts k p).toX (gTup X.K ts.length (gNames (ts.map (·.1)))) :=
  sg_row A.calm A.nd' fun t ht => ⟨(A.tgN (List.all_eq_true.mp h t ht)).1, (A.tgN (List.all_eq_true.mp h t ht)).2, .inl (A.fnT _)⟩
theorem s_unp {C : Ck} {X : Cx} (A : AtS tt Φ kf C X) {ts : List (Nat × Str × Pos)} {k : Nat} {pt : Pos} {e : E} {p : Pos} (h1 : (ts.all fun t => C.tg t.1 t.2.1) = true) (h2 : okE C e = true) (hw : swappedStores [(Tg.row ts k pt).toX] e.toX X.env = pure none) :
    PS X (S.unp ts k pt e p).toX (TSm tt X.K io (evS Φ io (.unp ts k pt e p))) :=
  ss_unp (sd_esc (sE e tt X C A.toAt h2)) (A.row h1) (sole_tup e _ _ _ _ _) hw
theorem s_asg {C : Ck} {X : Cx} (A : AtS tt Φ kf C X) {i : Nat} {x : Str} {px : Pos} {e : E} {p : Pos} (h1 : C.tg i x = true) (h2 : okE C e = true) (hb : swB C.sc x px e = false) : PS X (S.asg i x px e p).toX (TSm tt X.K io (evS Φ io (.asg i x px e p))) :=
  ss_asg A.nd' (A.tgN h1).1 (A.tgN h1).2 (.inl (A.fnT _)) (sE e tt X C A.toAt h2) (by rw [sw_comp A.kind, A.sc, hb])
theorem s_asgLc {C : Ck} {X : Cx} (A : AtS tt Φ kf C X) {i : Nat} {x : Str} {px : Pos} {elt : E} {t : Tg} {src : Sr} {ifs : Option E} {sc : Scope} {own : List (Str × Nat)} {pe p : Pos} (h1 : C.tg i x = true) (h : okE C (.comp elt t src ifs sc own pe) = true) (hb : swB C.sc x px (.comp elt t src ifs sc own pe) = true) :
    PS X (S.asg i x px (.comp elt t src ifs sc own pe) p).toX (TSm tt X.K io (evS Φ io (.asg i x px (.comp elt t src ifs sc own pe) p))) := by
  have hl : X.env.scope.names.lookup x = some .local := by
    rw [A.sc]
    unfold swB at hb
    exact of_decide_eq_true (and2 (and2 hb).1).1
  have hsw : swapsWith (E.comp elt t src ifs sc own pe).toX (some (.Name x px)) p.line X.env = pure true := by rw [sw_comp A.kind, A.sc, hb]
  cases ifs with
  | none =>
    unfold okE at h
    obtain ⟨h, h5⟩ := and2 h
    obtain ⟨h, h4⟩ := and2 h
    obtain ⟨h, h3⟩ := and2 h
    obtain ⟨h0, h2⟩ := and2 h
    obtain ⟨g, hp, hg⟩ := A.tgB h3
    exact ss_asgLc A.calm A.nd' (A.tgN h1).1 hl hsw (sSr src t tt X C A.toAt h0) (by rw [A.nm, A.sc]; exact blkOk_by h2) hp (fun i hi => List.contains_iff_mem.mp (List.all_eq_true.mp h4 i hi)) hg (fun s H Cc cl fp => pts_yes) (fun s H Cc cl fp => sd_esc (sE elt _ _ _ (A.toAt.blk sc s H Cc cl fp) h5)) (folded_Sr src X.env)
  | some c =>
    unfold okE at h
    obtain ⟨h, h6⟩ := and2 h
    obtain ⟨h, h5⟩ := and2 h
    obtain ⟨h, h4⟩ := and2 h
    obtain ⟨h, h3⟩ := and2 h
    obtain ⟨h0, h2⟩ := and2 h
    obtain ⟨g, hp, hg⟩ := A.tgB h3
    exact ss_asgLc A.calm A.nd' (A.tgN h1).1 hl hsw (sSr src t tt X C A.toAt h0) (by rw [A.nm, A.sc]; exact blkOk_by h2) hp (fun i hi => List.contains_iff_mem.mp (List.all_eq_true.mp h4 i hi)) hg (fun s H Cc cl fp => pts_one (sT c _ _ _ (A.toAt.blk sc s H Cc cl fp) h6)) (fun s H Cc cl fp => sd_esc (sE elt _ _ _ (A.toAt.blk sc s H Cc cl fp) h5)) (folded_Sr src X.env)
theorem okS_unp {C : Ck} {ts : List (Nat × Str × Pos)} {k : Nat} {pt : Pos} {e : E} {p : Pos} (h : okS C (.unp ts k pt e p) = true) : (ts.all fun t => C.tg t.1 t.2.1) = true ∧ okE C e = true ∧ (isTup e = true → (ts.any fun t => notLoc C.sc t.2.1) = true) := by
  cases e with
  | tup es k2 p2 =>
    unfold okS at h
    exact ⟨(and2 (and2 h).1).1, (and2 (and2 h).1).2, fun _ => (and2 h).2⟩
  | _ =>
    unfold okS at h
    exact ⟨(and2 h).1, (and2 h).2, fun z => nomatch z⟩
mutual
theorem sS : ∀ (s : S) (X : Cx) (C : Ck), AtS tt Φ kf C X → okS C s = true → PS X s.toX (TSm tt X.K io (evS Φ io s))
  | .asg i x px e p, X, C, A, h => by
    unfold okS at h
    obtain ⟨h1, h2⟩ := and2 h
    cases hb : swB C.sc x px e with
    | false => exact s_asg A h1 h2 hb
    | true =>
      cases e with
      | comp elt t src ifs sc own pe => exact s_asgLc A h1 h2 hb
      | _ => cases hb
  | .par i x px j y py kt pt a b k2 p2 p, X, C, A, h => by
    unfold okS at h
    obtain ⟨h, h6⟩ := and2 h
    obtain ⟨h, h5⟩ := and2 h
    obtain ⟨h, h4⟩ := and2 h
    obtain ⟨h, h3⟩ := and2 h
    obtain ⟨h1, h2⟩ := and2 h
    have q := h6
    unfold parB at q
    simp only [Bool.and_eq_true, decide_eq_true_eq] at q
    exact ss_par A.calm A.nd' (A.hi (of_decide_eq_true h1)) (A.hi (of_decide_eq_true h2)) (by rw [A.sc]; exact q.1.1.1.1.1) (by rw [A.sc]; exact q.1.1.1.1.2) (of_decide_eq_false (notb h3)) (sE a tt X C A.toAt h4) (sE b tt X C A.toAt h5) (star_E a [b.toX] X.env) (star_E b [] X.env) (stores_par A.sc A.kind h6)
  | .unp ts k pt e p, X, C, A, h => by
    obtain ⟨h1, h2, h3⟩ := okS_unp h
    cases ht : isTup e with
    | false => exact s_unp A h1 h2 (stores_E e ht _ _ _ _)
    | true => exact s_unp A h1 h2 (stores_none (by rw [A.sc]; exact h3 ht))
  | .six i x px ix ps e p, X, C, A, h => by
    unfold okS at h
    obtain ⟨h, h3⟩ := and2 h
    obtain ⟨h1, h2⟩ := and2 h
    obtain ⟨g1, g2, g3, g4⟩ := A.vr h1
    exact ss_six g1 g2 g3 g4 (sd_esc (sE e tt X C A.toAt h3)) (sd_esc (sE ix tt X C A.toAt h2)) (sub_asg ix x px ps X.env) (sole_sub e _ _ _ _ _)
  | .ret e p, X, C, A, h => by
    unfold okS at h
    exact ss_ret (sE e tt X C A.toAt h)
  | .exp e p, X, C, A, h => by
    unfold okS at h
    exact ss_exp (sE e tt X C A.toAt (and2 h).1) (sw_plain e (notb (and2 h).2) _ _ _)
  | .iff c a b p, X, C, A, h => by
    unfold okS at h
    obtain ⟨h, h3⟩ := and2 h
    exact ss_iff (sT c tt X C A.toAt (and2 h).1) (sSs a X C A (and2 h).2) (sSs b X C A h3)
  | .for_ t src body p, X, C, A, h => by
    unfold okS at h
    obtain ⟨h, h3⟩ := and2 h
    obtain ⟨h1, h2⟩ := and2 h
    obtain ⟨g, hg, hp⟩ := A.tg h1 fun x _ => .inl (A.fnT x)
    exact ss_for A.pass A.calm (sSr src t tt X C A.toAt h2) hg hp (sSs body X C A h3) (folded_Sr src X.env)
  | .wh c body p, X, C, A, h => by
    unfold okS at h
    exact ss_wh A.pass (sT c tt X C A.toAt (and2 h).1) (sSs body X C A (and2 h).2)
  | .pass p, X, C, A, h => ss_pass
  | .brk p, X, C, A, h => ss_brk
  | .cont p, X, C, A, h => ss_cont
  | .rse x c px e pc p, X, C, A, h => by
    unfold okS at h
    obtain ⟨h, h3⟩ := and2 h
    obtain ⟨h1, h2⟩ := and2 h
    obtain ⟨g1, g2, g3⟩ := A.toAt.cl h2
    exact ss_rse A.calm A.tk ((A.rkey (.inl h1)).mono (Nat.le_add_left _ _)) g3 g1 g2 (sE e tt X C A.toAt h3) (star_E e [] X.env)
  | .nev s, X, C, A, h => ss_nev
theorem sSs : ∀ (s : Ss) (X : Cx) (C : Ck), AtS tt Φ kf C X → okSs C s = true → PSs X s.toX (TSm tt X.K io (evSs Φ io s))
  | .nil, X, C, A, h => ss_nil
  | .cons s r, X, C, A, h => by
    unfold okSs at h
    exact ss_cons (sS s X C A (and2 h).1) (sSs r X C A (and2 h).2)
end
end
end Py
end
section
set_option Elab.async false
set_option linter.all false
set_option autoImplicit false
set_option maxRecDepth 100000
set_option maxHeartbeats 8000000
/-! A def from its body's meaning; all defs by the depth of calls. -/
namespace Py
open PySem PySem.Spec PyProof.Rows L2

section
variable {tt : TTs} {K : W.Frag} {G : Gh tt} {ρ ρ' : Fr} {hs : List Ent} {σ : L2.St} {H H' : Hp}
/-! ### the way in -/
def ioPairs : Nat → List Bool → List V → List (Nat × V)
  | i, true :: ms, v :: vs => (i, v) :: ioPairs (i + 1) ms vs
  | i, false :: ms, _ :: vs => ioPairs (i + 1) ms vs
  | _, _, _ => []
theorem ioPairs_ix : ∀ (k : Nat) (md : List Bool) (vs : List V), ∀ p ∈ ioPairs k md vs, p.1 ∈ ioOf k md ∧ ∃ j, p.1 = k + j ∧ vs[j]? = some p.2
  | k, [], vs, p, h => by cases vs <;> simp [ioPairs] at h
  | k, m :: ms, [], p, h => by cases m <;> simp [ioPairs] at h
  | k, true :: ms, v :: vs, p, h => by
    rcases List.mem_cons.mp h with rfl | h
    · exact ⟨List.mem_cons_self, 0, rfl, rfl⟩
    · obtain ⟨h1, j, h2, h3⟩ := ioPairs_ix (k + 1) ms vs p h
      exact ⟨List.mem_cons_of_mem _ h1, j + 1, by omega, by simpa using h3⟩
  | k, false :: ms, v :: vs, p, h => by
    obtain ⟨h1, j, h2, h3⟩ := ioPairs_ix (k + 1) ms vs p h
    exact ⟨h1, j + 1, by omega, by simpa using h3⟩
theorem zip_rep : ∀ (n m : Nat), (List.replicate n Sl.no).zip (List.replicate m (none : Option V)) = List.replicate (min n m) (.no, none)
  | 0, m => by simp
  | n + 1, 0 => by simp
  | n + 1, m + 1 => by
    rw [List.replicate_succ, List.replicate_succ, List.zip_cons_cons, zip_rep n m, Nat.add_min_add_right, List.replicate_succ]
theorem SimP.pads {B : Addr → Prop} {P : List Ent} (s : SimP K B P H) (n : Nat) : SimP K B (List.replicate n (.no, none) ++ P) H := by
  induction n with
  | zero => exact s
  | succ n ih => rw [List.replicate_succ]; exact ih.push_no none
theorem fit_len : ∀ {md : List Bool} {args : List Sl}, modesFit md args → md.length = args.length
  | [], [], _ => rfl
  | [], _ :: _, h => h.elim
  | _ :: _, [], h => h.elim
  | _ :: _, _ :: _, h => congrArg (· + 1) (fit_len h.2)
theorem sim_start {N : List Str} {md : List Bool} {args : List Sl} {vs : List V} {B : Addr → Prop} (hl : args.length = vs.length) (hn : vs.length ≤ N.length) (s : SimP K B (pairUp args vs) H) (hB : ∀ a, B a → Old H a) (ht : LamX.Tabs tt.ts H) (hb : ∀ a, B a → ¬ ∃ p ∈ pairUp args vs, Owns p a) :
    Sim (tt := tt) K ⟨H, fun a => ∃ p ∈ pairUp args vs, Owns p a, B, ioPairs 0 md vs⟩ (args ++ List.replicate (N.length - vs.length) .no) [] (L2.start N vs) H := by
  have ez : (args ++ List.replicate (N.length - vs.length) Sl.no).zip (L2.start N vs) = pairUp args vs ++ List.replicate (N.length - vs.length) (.no, none) := by
    unfold L2.start
    rw [List.zip_append (by rw [List.length_map, hl]), zip_rep, Nat.min_self]
    rfl
  have own : ∀ a, (∃ p ∈ (args ++ List.replicate (N.length - vs.length) Sl.no).zip (L2.start N vs) ++ [], Owns p a) → ∃ p ∈ pairUp args vs, Owns p a := fun a ⟨p, hp, o⟩ => by
    rw [List.append_nil, ez] at hp
    rcases List.mem_append.mp hp with hp | hp
    · exact ⟨p, hp, o⟩
    · obtain ⟨_, e⟩ := List.mem_replicate.mp hp
      subst e
      obtain ⟨⟨ds, e⟩, _⟩ := o
      cases e
  refine ⟨?_, ?_, fun _ _ e _ _ => e, fun _ o => o, fun a h => .inl (own a h), fun a h => ⟨hB a h, hb a h⟩, ht, fun p hp => ?_⟩
  · unfold L2.start
    rw [List.length_append, List.length_append, List.length_replicate, List.length_replicate, List.length_map, hl]
  · rw [List.append_nil, ez]
    exact (s.pads _).perm List.perm_append_comm
  · obtain ⟨_, j, e1, e2⟩ := ioPairs_ix 0 md vs p hp
    rw [Nat.zero_add] at e1
    unfold L2.start
    have hj : j < vs.length := (List.getElem?_eq_some_iff.mp e2).1
    rw [e1, List.getElem?_append_left (by rw [List.length_map]; exact hj), List.getElem?_map, e2]
    rfl
/-! ### the way out -/
theorem outs_len : ∀ (k : Nat) (md : List Bool) (vs : List V), md.length = vs.length → (ioOf k md).length = (ioVals md vs).length
  | _, [], [], _ => rfl
  | _, [], _ :: _, h => by simp at h
  | _, _ :: _, [], h => by simp at h
  | k, true :: ms, v :: vs, h => congrArg (· + 1) (outs_len (k + 1) ms vs (by simpa using h))
  | k, false :: ms, v :: vs, h => outs_len (k + 1) ms vs (by simpa using h)
theorem outs_sub : ∀ (k : Nat) (md : List Bool) (vs : List V) (l : List Ent), md.length = vs.length → (∀ p ∈ ioPairs k md vs, ∃ s, l[p.1]? = some (s, some p.2) ∧ ρ.getD p.1 .no = s) → (pairUp (outsOf (ioOf k md) ρ) (ioVals md vs)).Sublist (l.drop k)
  | _, [], [], _, _, _ => List.nil_sublist _
  | _, [], _ :: _, _, h, _ => by simp at h
  | _, _ :: _, [], _, h, _ => by simp at h
  | k, true :: ms, v :: vs, l, h, q => by
    have ih := outs_sub (k + 1) ms vs l (by simpa using h) fun p hp => q p (List.mem_cons_of_mem _ hp)
    obtain ⟨s, e1, e2⟩ := q (k, v) List.mem_cons_self
    have hk : k < l.length := (List.getElem?_eq_some_iff.mp e1).1
    rw [List.drop_eq_getElem_cons hk]
    have e3 : l[k] = (s, some v) := (List.getElem?_eq_some_iff.mp e1).2
    rw [e3]
    show ((ρ.getD k .no, some v) :: pairUp (outsOf (ioOf (k + 1) ms) ρ) (ioVals ms vs)).Sublist _
    rw [e2]
    exact ih.cons_cons _
  | k, false :: ms, v :: vs, l, h, q => by
    have ih := outs_sub (k + 1) ms vs l (by simpa using h) q
    refine ih.trans ?_
    rw [show k + 1 = k + 1 from rfl, ← List.drop_drop]
    exact List.drop_sublist 1 (l.drop k)
/-- what is left of a run, as its caller wants it -/
theorem call_out {md : List Bool} {vs : List V} {P : List Ent} {B : Addr → Prop} {Q : VK} {s : Sl} {x : V} (hl : md.length = vs.length)
    (S : Sim (tt := tt) K ⟨H, fun a => ∃ p ∈ P, Owns p a, B, ioPairs 0 md vs⟩ ρ [(s, some x)] σ H') (h : CallOk tt.ts K B P md vs H Q tt.E (.ok s (outsOf (ioOf 0 md) ρ))) : Q x H' := by
  have sub : (pairUp (outsOf (ioOf 0 md) ρ) (ioVals md vs)).Sublist (ρ.zip σ) := by
    refine outs_sub 0 md vs (ρ.zip σ) hl fun p hp => ?_
    have e := S.io p hp
    have hi : p.1 < ρ.length := by rw [S.len]; exact (List.getElem?_eq_some_iff.mp e).1
    exact ⟨ρ[p.1], zip_at (List.getElem?_eq_getElem hi) e, by rw [List.getD_eq_getElem?_getD, List.getElem?_eq_getElem hi]; rfl⟩
  refine h x H' ?_ ?_ (fun a o e t n => S.frm a o e t n) (fun a o => S.trk a o) S.tabs (fun a ⟨p, hp, o⟩ => ?_)
  · show ((ioOf 0 md).map _).length = _
    rw [List.length_map]
    exact outs_len 0 md vs hl
  · exact (S.sp.sublist (sub.append (List.Sublist.refl _))).perm List.perm_append_comm
  · refine S.ow a ⟨p, ?_, o⟩
    rcases List.mem_cons.mp hp with rfl | hp
    · exact List.mem_append_right _ List.mem_cons_self
    · exact List.mem_append_left _ (sub.subset hp)
theorem call_exit {md : List Bool} {vs : List V} {P : List Ent} {B : Addr → Prop} {Q : VK} {r : R} {x : V} (hl : md.length = vs.length)
    (S : Sim (tt := tt) K ⟨H, fun a => ∃ p ∈ P, Owns p a, B, ioPairs 0 md vs⟩ ρ (ents r x ++ []) σ H') (al : sameAt r x σ) (h : CallOk tt.ts K B P md vs H Q tt.E (exitM (ioOf 0 md) r ρ)) : Q x H' := by
  cases r with
  | dt d => exact call_out hl S h
  | new ds => exact call_out hl S h
  | sl i =>
    have al : σ[i]? = some (some x) := al
    have S : Sim (tt := tt) K ⟨H, fun a => ∃ p ∈ P, Owns p a, B, ioPairs 0 md vs⟩ ρ [] σ H' := S
    unfold exitM at h
    dsimp only at h
    cases e : ρ[i]? with
    | none => rw [e] at h; exact h.elim
    | some s =>
      rw [e] at h
      cases s with
      | no => exact h.elim
      | val d =>
        obtain ⟨v, e2, rd⟩ := S.valAt e
        rw [al] at e2; cases e2
        exact call_out hl (S.push_dt rd) h
      | own ds =>
        dsimp only at h
        split at h
        · have S1 := S.freeze e
          have hi : i < ρ.length := (List.getElem?_eq_some_iff.mp e).1
          obtain ⟨v, e2, rd⟩ := S1.valAt (d := .list ds) (i := i) (by rw [List.getElem?_set_self hi])
          rw [al] at e2; cases e2
          exact call_out hl (S1.push_dt rd) h
        · rename_i hc
          have S1 := S.take e al
          have eo : outsOf (ioOf 0 md) (ρ.set i .no) = outsOf (ioOf 0 md) ρ := by
            unfold outsOf
            refine List.map_congr_left fun j hj => ?_
            have hne : i ≠ j := fun z => hc (by rw [z]; exact List.contains_iff_mem.mpr hj)
            rw [List.getD_eq_getElem?_getD, List.getD_eq_getElem?_getD, List.getElem?_set_ne hne]
          rw [← eo] at h
          exact call_out hl S1 h
end

/-! ### one def -/
section
variable {ts : List (Addr × Str)} {P : Program} {w : World} {K : W.Frag} {mg : Str → Option Value} {base : Heap} {kf : Nat} {Φ : Fx} {C : Ck}
/-- what the defs' module gives -/
structure Md (ts : List (Addr × Str)) (P : Program) (w : World) (K : W.Frag) (mg : Str → Option Value) (base : Heap) (Φ : Fx) (kf : Nat) (blt : List Str) (fns : List (Nat × Str × Nat)) (gis : Gb) : Prop where
  fns : ∀ f x np, (f, x, np) ∈ fns → ∃ a fd ps, mg x = some (.ref a) ∧ W.keepIn K (.ref a) = true ∧ L2.Binds K fd ps [] ∧ FnG P w K mg base (L2.CX P w) kf a fd ps (SpF ts K np (Φ.md f) (Φ.call f))
  blt : ∀ x ∈ blt, mg x = none
  nums : ∀ x n, (x, n) ∈ gis.nums → ∃ t, mg x = some (.int n t)
  fas : ∀ x a, (x, a) ∈ gis.fas → mg x = some (.ref a)
  cls : ∀ x c, (x, c) ∈ gis.cls → ErrC P w K mg base x c
  hrd : gis.hrd = true → HrdC K mg
theorem body_ok {name : Str} {st : Stmt} {f : Addr} {N ps : List Str} {fn : Fn} {blt : List Str} {fns : List (Nat × Str × Nat)} {gis : Gb} {lam : Bool} {oc : Value} {od an : Option Addr} {osl : Array (Option Value)} {kV doc pm cdv ct : Value}
    (M : Md ts P w K mg base Φ kf blt fns gis) (lk : K.lookup f = some ⟨oc, od, .func (W.fnOf name name (defArgs st) (defBody st) (defScope st) .none kV doc pm an cdv ct), osl⟩) (hcd : W.codeIn K cdv name = true) (S : FnScope N ps (defScope st))
    (hb : defBody st = fn.body.toX) (hok : okSs ⟨N, defScope st, blt, fns, gis, true, lam⟩ fn.body = true) (hnp : fn.np = ps.length) (hnn : fn.nn = N.length)
    (hlam : lam = true → ∃ c Pt, LamX.TabB base mg c Pt ∧ cdv = .ref c ∧ (Pt, name ++ ".<locals>." ++ "<lambda>") ∈ ts ∧ ∀ p ∈ ts, p.1 = Pt → p.2 = name ++ ".<locals>." ++ "<lambda>") :
    FnG P w K mg base (L2.CX P w) (kf + 3) f (W.fnOf name name (defArgs st) (defBody st) (defScope st) .none kV doc pm an cdv ct) ps (SpF ts K ps.length fn.md (runFn Φ fn)) := by
  refine fg_of lk hcd S (fun vs H Q E h => h.1) fun A outer s H vs Q E hgd hr h => ?_
  refine ⟨TSm ⟨ts, E⟩ K (ioOf 0 fn.md) (evSs Φ (ioOf 0 fn.md) fn.body), ?_, ?_⟩
  · rw [hb]
    refine sSs fn.body _ ⟨N, defScope st, blt, fns, gis, true, lam⟩ ⟨⟨rfl, rfl, S.nd, rfl, hr.mono (by omega), hgd, fun _ => hr, M.fns, M.blt, M.nums, M.fas, M.cls, M.hrd, takes_of rfl rfl rfl rfl, fun hl => ?_⟩, PassesOwn.leaving, fun _ => rfl, S.kind⟩ hok
    obtain ⟨c, Pt, h1, h2, h3, h4⟩ := hlam hl
    exact ⟨c, Pt, h1, h2, h3, h4⟩
  · obtain ⟨hvl, B, args, hal, hmf, sp, hB, ht, hc⟩ := h
    have hpl : ps.length ≤ N.length := by have := congrArg List.length S.pre; rw [List.length_take] at this; omega
    have hml : fn.md.length = vs.length := (fit_len hmf).trans hal
    have nb : ∀ a, B a → ¬ ∃ p ∈ pairUp args vs, Owns p a := fun a b ⟨p, hp, ⟨ds, e⟩, e2⟩ => by
      obtain ⟨c, us, e3, _, _, n⟩ := sp.own p hp ds e
      rw [e2] at e3; cases e3
      exact n b
    have S0 := sim_start (tt := ⟨ts, E⟩) (N := N) (md := fn.md) hal (by omega) sp hB ht nb
    unfold runFn at hc
    have e1 : args.length = fn.np := by rw [hal, hvl, hnp]
    have e2 : fn.nn - fn.np = N.length - vs.length := by rw [hnn, hnp, hvl]
    rw [if_pos e1, e2] at hc
    refine ⟨_, _, _, S0, fun p hp => List.contains_iff_mem.mpr (ioPairs_ix 0 fn.md vs p hp).1, ?_⟩
    cases er : evSs Φ (ioOf 0 fn.md) fn.body (args ++ List.replicate (N.length - vs.length) .no) with
    | nx ρ =>
      rw [er] at hc
      exact fun σ H' S1 => call_exit (r := .dt .none) (x := .non) hml (S1.push_dt .non) trivial hc
    | rt r ρ =>
      rw [er] at hc
      exact fun x σ H' S1 al => call_exit hml S1 al hc
    | bk ρ => rw [er] at hc; exact hc.elim
    | ct ρ => rw [er] at hc; exact hc.elim
    | no => rw [er] at hc; exact hc.elim
    | ex Cc d =>
      rw [er] at hc
      dsimp only at hc
      split at hc
      · rename_i hall
        have noA : ∀ a, ¬ ∃ p ∈ pairUp args vs, Owns p a := fun a ⟨p, hp, ⟨ds, e⟩, _⟩ => by
          have nn : ∀ (md : List Bool) (as : List Sl) (vs : List V), modesFit md as → md.all (!·) = true → ∀ p ∈ pairUp as vs, ∀ ds, p.1 ≠ .own ds := by
            intro md
            induction md with
            | nil => intro as vs h _ p hp; cases as with
              | nil => simp [pairUp] at hp
              | cons _ _ => exact h.elim
            | cons m md ih => intro as vs h hm p hp ds; cases as with
              | nil => exact h.elim
              | cons a as => cases vs with
                | nil => simp [pairUp] at hp
                | cons v vs =>
                  rw [List.all_cons, Bool.and_eq_true] at hm
                  rcases List.mem_cons.mp hp with rfl | hp
                  · intro e
                    have := h.1 ⟨ds, e⟩
                    subst this
                    exact absurd hm.1 (by decide)
                  · exact ih as vs h.2 hm.2 p hp ds
          exact nn fn.md args vs hmf hall p hp ds e
        exact fun v H' dx x hd => hc v H' dx x.sp (fun a o e t n => x.frm a o e t n) (fun a o => x.trk a o) x.tabs hd
      · exact hc.elim
/-- a call without depth left promises nothing -/
theorem fg_never {a : Addr} {fd : FuncData} {ps : List Str} {md : List Bool} {k : Nat} : FnG P w K mg base (L2.CX P w) k a fd ps (SpF ts K ps.length md fun _ => .no) :=
  ⟨fun vs H Q E h => h.1, fun A outer s H args us vs Q E hr hg he hb hv h => by
    obtain ⟨_, B, as, _, _, _, _, _, hc⟩ := h
    exact hc.elim⟩
end
end Py
end
section
set_option Elab.async false
set_option linter.all false
set_option autoImplicit false
set_option maxRecDepth 100000
set_option maxHeartbeats 8000000
/-! All defs of a program; the law. -/
namespace Py
open PySem PySem.Spec PyProof.Rows L2

section
variable {ts : List (Addr × Str)} {P : Program} {w : World} {K : W.Frag} {mg : Str → Option Value} {base : Heap}
/-- a def as it stands behind the top, and its terms -/
structure DefOk (ts : List (Addr × Str)) (K : W.Frag) (mg : Str → Option Value) (base : Heap) (blt : List Str) (fns : List (Nat × Str × Nat)) (gis : Gb) (x : Str) (np : Nat) (fn : Fn) : Prop where
  ex : ∃ (st : Stmt) (f : Addr) (N ps : List Str) (lam : Bool) (oc : Value) (od an : Option Addr) (osl : Array (Option Value)) (kV doc pm cdv ct : Value),
    mg x = some (.ref f) ∧ W.keepIn K (.ref f) = true ∧ K.lookup f = some ⟨oc, od, .func (W.fnOf x x (defArgs st) (defBody st) (defScope st) .none kV doc pm an cdv ct), osl⟩ ∧ W.codeIn K cdv x = true ∧ FnScope N ps (defScope st) ∧
    L2.Binds K (W.fnOf x x (defArgs st) (defBody st) (defScope st) .none kV doc pm an cdv ct) ps [] ∧ defBody st = fn.body.toX ∧ okSs ⟨N, defScope st, blt, fns, gis, true, lam⟩ fn.body = true ∧ fn.np = ps.length ∧ fn.nn = N.length ∧ np = ps.length ∧
    (lam = true → ∃ c Pt, LamX.TabB base mg c Pt ∧ cdv = .ref c ∧ (Pt, x ++ ".<locals>." ++ "<lambda>") ∈ ts ∧ ∀ p ∈ ts, p.1 = Pt → p.2 = x ++ ".<locals>." ++ "<lambda>")
/-- what the module gives beside its defs -/
structure GbOk (P : Program) (w : World) (K : W.Frag) (mg : Str → Option Value) (base : Heap) (gis : Gb) : Prop where
  nums : ∀ x n, (x, n) ∈ gis.nums → ∃ t, mg x = some (.int n t)
  fas : ∀ x a, (x, a) ∈ gis.fas → mg x = some (.ref a)
  cls : ∀ x c, (x, c) ∈ gis.cls → ErrC P w K mg base x c
  hrd : gis.hrd = true → HrdC K mg
theorem all_md {Pm : Nat → Option Fn} {blt : List Str} {fns : List (Nat × Str × Nat)} {gis : Gb} (hb : ∀ x ∈ blt, mg x = none) (hg : GbOk P w K mg base gis)
    (hD : ∀ f x np, (f, x, np) ∈ fns → ∃ fn, Pm f = some fn ∧ DefOk ts K mg base blt fns gis x np fn) : ∀ n, Md ts P w K mg base (fxOf Pm (callN Pm n)) (3 * n) blt fns gis
  | 0 => ⟨fun f x np hf => by
      obtain ⟨fn, e, D⟩ := hD f x np hf
      obtain ⟨st, a, N, ps, lam, oc, od, an, osl, kV, doc, pm, cdv, ct, h1, h2, h3, h4, h5, h6, h7, h8, h9, h10, h11, h12⟩ := D.ex
      subst h11
      exact ⟨a, _, ps, h1, h2, h6, fg_never⟩, hb, hg.nums, hg.fas, hg.cls, hg.hrd⟩
  | n + 1 => ⟨fun f x np hf => by
      obtain ⟨fn, e, D⟩ := hD f x np hf
      obtain ⟨st, a, N, ps, lam, oc, od, an, osl, kV, doc, pm, cdv, ct, h1, h2, h3, h4, h5, h6, h7, h8, h9, h10, h11, h12⟩ := D.ex
      subst h11
      have M := all_md hb hg hD n
      have q := body_ok M h3 h4 h5 h7 h8 h9 h10 h12
      refine ⟨a, _, ps, h1, h2, h6, ?_⟩
      have e1 : (fxOf Pm (callN Pm (n + 1))).md f = fn.md := by unfold fxOf; dsimp only; rw [e]
      have e2 : (fxOf Pm (callN Pm (n + 1))).call f = runFn (fxOf Pm (callN Pm n)) fn := by
        funext args
        show callN Pm (n + 1) f args = _
        unfold callN
        rw [e]
      rw [e1, e2]
      exact q, hb, hg.nums, hg.fas, hg.cls, hg.hrd⟩
/-- what the law is asked: a list of ints -/
def spLaw (ts : List (Addr × Str)) (K : W.Frag) : Sp := fun vs H Q _ => ∃ (a : Addr) (ns : List Int), vs = [.ref a] ∧ LsR K H a (ns.map V.int) ∧ LamX.Tabs ts H ∧ ns.length ≤ 63 ∧ (∀ z ∈ ns, Builtin.Int.intBits z ≤ 1048576) ∧ ∀ H', Q (.bl true) H'
theorem rel_intL {N : Addr → Prop} {H : Hp} : ∀ ns : List Int, RelL K N H (ns.map PyData.int) (ns.map V.int)
  | [] => .nil
  | n :: ns => .cons (.int n) (rel_intL ns)
theorem law_spec {call : List Sl → CO} {k : Nat} {fa : Addr} {fd : FuncData} {x : Str} (F : FnG P w K mg base (L2.CX P w) k fa fd [x] (SpF ts K 1 [false] call))
    (h : ∀ ns : List Int, ns.length ≤ 63 → (∀ z ∈ ns, Builtin.Int.intBits z ≤ 1048576) → call [.val (.list (ns.map PyData.int))] = .ok (.val (.bool true)) []) : FnG P w K mg base (L2.CX P w) k fa fd [x] (spLaw ts K) :=
  fg_imp F fun vs H Q E ⟨a, ns, e, hl, ht, hn, hb, q⟩ => by
    subst e
    refine ⟨rfl, fun _ => False, [.val (.list (ns.map PyData.int))], rfl, ⟨(fun ⟨_, z⟩ => nomatch z), trivial⟩, ?_, fun _ z => z.elim, ht, ?_⟩
    · have nn : ∀ b, ¬ NN (fun _ => False) (pairUp [.val (.list (ns.map PyData.int))] [.ref a]) b := fun b z => by
        rcases z with ⟨p, hp, ⟨ds, e⟩, _⟩ | z
        · have e2 : p = (.val (.list (ns.map PyData.int)), some (.ref a)) := by simpa [pairUp] using hp
          subst e2; cases e
        · exact z
      refine ⟨fun p hp d e => ?_, fun p hp ds e => ?_, ?_⟩
      · have e2 : p = (.val (.list (ns.map PyData.int)), some (.ref a)) := by simpa [pairUp] using hp
        subst e2; cases e
        refine ⟨.ref a, rfl, ?_⟩
        rcases hl with hl | hl
        · exact .lst hl (nn a) (rel_intL ns)
        · exact .lstK hl (rel_intL ns)
      · have e2 : p = (.val (.list (ns.map PyData.int)), some (.ref a)) := by simpa [pairUp] using hp
        subst e2; cases e
      · exact List.pairwise_singleton _ _
    · rw [h ns hn hb]
      intro x H' _ s _ _ _ _
      obtain ⟨v, e, r⟩ := s.val _ List.mem_cons_self (.bool true) rfl
      cases e
      cases r
      exact q H'
end
/-- a def as the head's written part has it -/
structure At1 (K : W.Frag) (x : Str) (st : Stmt) (f : Addr) (cdv : Value) : Prop where
  ex : ∃ (oc : Value) (od an : Option Addr) (osl : Array (Option Value)) (kV doc pm ct : Value), K.lookup f = some ⟨oc, od, .func (W.fnOf x x (defArgs st) (defBody st) (defScope st) .none kV doc pm an cdv ct), osl⟩
  ns : W.nsIn K mainGlobals x = some (some (.ref f))
  cd : W.codeIn K cdv x = true
  kp : W.keepIn K (.ref f) = true
theorem at1_mk {K : W.Frag} {x : Str} {st : Stmt} {f : Addr} {cdv : Value} {oc : Value} {od an : Option Addr} {osl : Array (Option Value)} {kV doc pm ct : Value} (a : W.nsIn K mainGlobals x = some (some (.ref f)))
    (l : K.lookup f = some ⟨oc, od, .func (W.fnOf x x (defArgs st) (defBody st) (defScope st) .none kV doc pm an cdv ct), osl⟩) (c : W.codeIn K cdv x = true) (k : W.keepIn K (.ref f) = true) : At1 K x st f cdv := ⟨⟨oc, od, an, osl, kV, doc, pm, ct, l⟩, a, c, k⟩
def Bd (x : Str) (st : Stmt) (ps : List Str) : Prop := ∀ (kV doc pm : Value) (an : Option Addr) (cdv ct : Value) (us : List Value), us.length = ps.length → bindArgs (W.fnOf x x (defArgs st) (defBody st) (defScope st) .none kV doc pm an cdv ct) ⟨us, []⟩ = pure (ps.zip us)
def DD (ts : List (Addr × Str)) (K : W.Frag) (mg : Str → Option Value) (base : Heap) (Pm : Nat → Option Fn) (blt : List Str) (fns : List (Nat × Str × Nat)) (gis : Gb) (e : Nat × Str × Nat) : Prop := ∃ fn, Pm e.1 = some fn ∧ DefOk ts K mg base blt fns gis e.2.1 e.2.2 fn
section
variable {ts : List (Addr × Str)} {K : W.Frag} {mg : Str → Option Value} {base h : Heap} {Pm : Nat → Option Fn} {blt : List Str} {fns : List (Nat × Str × Nat)} {gis : Gb}
theorem def_ok {x : Str} {st : Stmt} {f : Addr} {cdv : Value} {N ps : List Str} {fn : Fn} {lam : Bool} (X : K.In h) (G : h.Ns mainGlobals mg) (a : At1 K x st f cdv) (S : FnScope N ps (defScope st)) (tx : defBody st = fn.body.toX) (ok : okSs ⟨N, defScope st, blt, fns, gis, true, lam⟩ fn.body = true)
    (hb : Bd x st ps) (h1 : fn.np = ps.length) (h2 : fn.nn = N.length) (hl : lam = true → ∃ c Pt, LamX.TabB base mg c Pt ∧ cdv = .ref c ∧ (Pt, x ++ ".<locals>." ++ "<lambda>") ∈ ts ∧ ∀ p ∈ ts, p.1 = Pt → p.2 = x ++ ".<locals>." ++ "<lambda>") : DefOk ts K mg base blt fns gis x ps.length fn := by
  obtain ⟨oc, od, an, osl, kV, doc, pm, ct, lk⟩ := a.ex
  exact ⟨st, f, N, ps, lam, oc, od, an, osl, kV, doc, pm, cdv, ct, W.mg_of X G a.ns, a.kp, lk, a.cd, S, .all (hb kV doc pm an cdv ct), tx, ok, h1, h2, rfl, hl⟩
theorem dd_nil : ∀ e ∈ ([] : List (Nat × Str × Nat)), DD ts K mg base Pm blt fns gis e := fun _ h => nomatch h
theorem dd_cons {i : Nat} {x : Str} {n : Nat} {l : List (Nat × Str × Nat)} {fn : Fn} (e : Pm i = some fn) (D : DefOk ts K mg base blt fns gis x n fn) (r : ∀ e ∈ l, DD ts K mg base Pm blt fns gis e) : ∀ e ∈ (i, x, n) :: l, DD ts K mg base Pm blt fns gis e :=
  List.forall_mem_cons.mpr ⟨⟨fn, e, D⟩, r⟩
theorem dd_all {P : Program} {w : World} (hb : ∀ x ∈ blt, mg x = none) (hg : GbOk P w K mg base gis) (h : ∀ e ∈ fns, DD ts K mg base Pm blt fns gis e) (n : Nat) : Md ts P w K mg base (fxOf Pm (callN Pm n)) (3 * n) blt fns gis :=
  all_md hb hg (fun f x np hm => h (f, x, np) hm) n
end
/-- what is known of the law's promise at the head's heap h -/
def LawAtM (l : W.OpenLaw) (w : World) (K : W.Frag) (k : Nat) (x : Str) (mg : Str → Option Value) (fa : Addr) (h : Heap) : Prop :=
  ∃ (fd : FuncData) (cs : List (Addr × Addr)) (ts : List (Addr × Str)), (∀ p ∈ cs, h.get? p.2 = some { cls := .none, data := .fields #[] }) ∧ (∀ p ∈ cs, K.lookup p.2 = none) ∧ (∀ p ∈ cs, W.CodeHd h p.1 p.2) ∧ (∀ (s : Shared) (u : Value), BindsTo s fd ⟨[u], []⟩ [(x, u)]) ∧
    (∀ t ∈ ts, ∃ p ∈ cs, p.2 = t.1) ∧ ∀ base : Heap, K.In base → base.Ns mainGlobals mg → (∀ p ∈ cs, LamX.TabB base mg p.1 p.2) → FnG l.prog w K mg base (L2.CX l.prog w) k fa fd [x] (spLaw ts K)
theorem walk_mine {l : W.OpenLaw} {k : Nat} {q : Program} {loose : List Str} {XP : (Str → Option Value) → Heap → Prop} {YP : World → Heap → Prop} {d : DefRec} {K : Params → W.Frag} {x : Str}
    (hn : l.most = some 63) (hdf : d.params.defaults = []) (hr : Room k callerA) (hY : ∀ (w : World) (h : Heap), YP w h → (K w.params).In h)
    (F : ∀ (w : World) (mg : Str → Option Value) (fa : Addr) (h : Heap), YP w h → (K w.params).In h → h.Ns mainGlobals mg → mg d.name = some (.ref fa) → LawAtM l w (K w.params) k x mg fa h) :
    PySem.W.WalkO q loose XP YP l.row.toRowW d [] (fun f vs => PySem.call f vs) := by
  refine Att.attach_callB hn hdf fun w s₀ s₁ mg mb fa o pm cd doc a vs ns G Y ho hd hcd hmg hobj hints hlen hbits hg => ?_
  have KX := hY w _ Y
  obtain ⟨fd, cs, ts, hT, nT, C, hb, htt, hF⟩ := F w mg fa _ Y KX G.T.g hmg
  refine law_callG KX G.T.g G.T.b G.T.builtins G.T.nolimit hg hT nT C G.T.bmain hobj hints (Nat.le_trans hlen (by decide)) hr hF hb (fun H hH hS => ⟨a, ns, rfl, ?_, fun t ht => ?_, hlen, hbits, fun _ => rfl⟩) fun H e s' ⟨_, _, _, _, _, _, _, _, _, _, _, _, w⟩ => w
  · rcases hS with hS | ⟨o1, its, n, h1, h2, h3, h4, h5, h6⟩
    · exact .inl hS
    · have e := KX _ _ h1
      rw [hobj] at e
      cases e
      cases h4
      exact .inr ⟨_, _, h1, h5, h6⟩
  · obtain ⟨p, hp, e⟩ := htt t ht
    rw [← e]
    exact LamX.TabS.nil (hH p hp)
end Py
end
section
set_option Elab.async false
set_option linter.all false
set_option autoImplicit false
set_option maxRecDepth 100000
set_option maxHeartbeats 4000000
/-! Errors of own classes, _law_heard: from what a row's written part says. -/
namespace Py
open PySem PySem.Spec PyProof.Rows L2

/-- what the written part says of an own error class x at C; its __init__ at fI stands in the class at D -/
structure ErrK (K : W.Frag) (x : Str) (C D fI : Addr) : Prop where
  ns : W.nsIn K mainGlobals x = some (some (.ref C))
  isc : L2.ExcC K C
  xf : XfC K C
  isk : W.kitOne K (.ref C) (.ref C) = some true
  no : W.findIn K (.ref C) "value" = some none
  up : W.exmOne K (.ref C) (.ref D) = some true
  sup : SupC K C D
  iC : W.findIn K (.ref C) "__init__" = some (some (.ref fI))
theorem errK_mk {K : W.Frag} {x : Str} {C D fI : Addr} {oC : Obj} (a1 : W.nsIn K mainGlobals x = some (some (.ref C))) (b1 : W.findIn K (.ref C) "__getattribute__" = some (some (.builtin "BaseException.__getattribute__"))) (b2 : W.findIn K (.ref C) "__getattr__" = some none) (b3 : W.subIn K (.ref C) (.type "BaseException") = some true)
    (b4 : W.hasDictIn K C = true) (b5 : W.findIn K (.ref C) "__class__" = some (some (.builtin "object.__class__"))) (b6 : W.specialIn K (.builtin "object.__class__") "__get__" = some (some (.builtin "getset_descriptor.__get__"))) (b7 : W.takesIn K (.builtin "object.__class__") = some true) (b8 : W.mroIn K C (.type "object") = some true)
    (a2 : W.kitOne K (.ref C) (.ref C) = some true) (a3 : W.findIn K (.ref C) "value" = some none) (a4 : W.exmOne K (.ref C) (.ref D) = some true)
    (c0 : K.lookup C = some oC) (c1 : ∃ nm q N bs bm sn sub ab col dd k0 k1 k2 k3 k5, oC = excClassObj nm q C N bs bm true sn sub ab col dd k0 k1 k2 k3 k5 "ValueError.__new__" ∧ PySem.HandSPX.refsVE bm = true) (c2 : W.findIn K (.ref C) "__setattr__" = some (some (.builtin "object.__setattr__"))) (c3 : W.typeIn K (.ref C) = some (.type "type")) (c4 : W.keepIn K (.ref C) = true)
    (d1 : W.mroIn K C (.ref D) = some true) (d2 : ∃ cd, W.clsIn K D = some cd) (d3 : W.ks_superIn K C D "__init__" = some (some (.builtin "ValueError.__init__"))) (d4 : W.subIn K (.ref C) (.type "ValueError") = some true) (d5 : W.nsIn K cStatics "thirdparty.any" = some none)
    (a5 : W.findIn K (.ref C) "__init__" = some (some (.ref fI))) : ErrK K x C D fI :=
  ⟨a1, ⟨b1, b2, b3, b4, b5, b6, b7, b8⟩, ⟨b1, b2, b3, b4⟩, a2, a3, a4, ⟨⟨by
    obtain ⟨nm, q, N, bs, bm, sn, sub, ab, col, dd, k0, k1, k2, k3, k5, e, r⟩ := c1
    subst e
    exact ⟨nm, q, N, bs, bm, sn, sub, ab, col, dd, k0, k1, k2, k3, k5, c0, r⟩, c2, b3, c3, c4⟩, d1, d2, d3, d4, d5⟩, a5⟩
/-- the __init__ -/
structure InitK (P : Program) (K : W.Frag) (D fI : Addr) : Prop where
  ex : ∃ (cc cda : Addr) (name qual file : Str) (params : Arguments) (kV doc pm ct oc cl ccl : Value) (an od cld cdd : Option Addr) (osl csl ccs : Array (Option Value)) (vs : Array Value) (tf : Tok) (p0 p1 p2 p3 p4 q0 q1 q2 q3 px pa pb : Pos),
    K.lookup fI = some ⟨oc, od, .func (W.fnX name qual params (initBody "value" p0 p1 p2 p3 p4 q0 q1 q2 q3 px) (scInit slInit) [("__class__", cc)] .none kV doc pm an (.ref cda) ct), osl⟩ ∧ params = ⟨[], [⟨"self", none, pa⟩, ⟨"value", none, pb⟩], none, [], [], none, []⟩ ∧ W.codeIn K (.ref cda) qual = true ∧
    K.lookup cc = some ⟨cl, cld, .cell (some (.ref D)), csl⟩ ∧ K.lookup cda = some ⟨ccl, cdd, .fields vs, ccs⟩ ∧ vs[2]? = some (.str file tf) ∧ ((P.main.file : Str) == file) = true ∧ (P.main.scope.names.lookup ("super" : Str)).isSome = false ∧ W.nsIn K mainGlobals "super" = some none ∧ (p2.endLine == p3.line) = true
  ty : W.typeIn K (.ref fI) = some (.type "function")
theorem initK_mk {P : Program} {K : W.Frag} {D fI cc cda : Addr} {name qual file : Str} {params : Arguments} {kV doc pm ct oc cl ccl : Value} {an od cld cdd : Option Addr} {osl csl ccs : Array (Option Value)} {vs : Array Value} {tf : Tok} {p0 p1 p2 p3 p4 q0 q1 q2 q3 px pa pb : Pos} {oF oL : Obj}
    (h0 : K.lookup fI = some oF) (h1 : oF = ⟨oc, od, .func (W.fnX name qual params (initBody "value" p0 p1 p2 p3 p4 q0 q1 q2 q3 px) (scInit slInit) [("__class__", cc)] .none kV doc pm an (.ref cda) ct), osl⟩) (h2 : params = ⟨[], [⟨"self", none, pa⟩, ⟨"value", none, pb⟩], none, [], [], none, []⟩) (h3 : W.codeIn K (.ref cda) qual = true)
    (h4a : K.lookup cc = some oL) (h4 : oL = ⟨cl, cld, .cell (some (.ref D)), csl⟩) (h5 : K.lookup cda = some ⟨ccl, cdd, .fields vs, ccs⟩) (h6 : vs[2]? = some (.str file tf)) (h7 : ((P.main.file : Str) == file) = true) (h8 : (P.main.scope.names.lookup ("super" : Str)).isSome = false) (h9 : W.nsIn K mainGlobals "super" = some none) (h10 : (p2.endLine == p3.line) = true)
    (h11 : W.typeIn K (.ref fI) = some (.type "function")) : InitK P K D fI :=
  ⟨⟨cc, cda, name, qual, file, params, kV, doc, pm, ct, oc, cl, ccl, an, od, cld, cdd, osl, csl, ccs, vs, tf, p0, p1, p2, p3, p4, q0, q1, q2, q3, px, pa, pb, h1 ▸ h0, h2, h3, h4 ▸ h4a, h5, h6, h7, h8, h9, h10⟩, h11⟩
section
variable {P : Program} {w : World} {K : W.Frag} {mg : Str → Option Value} {base h : Heap} {x : Str} {C D fI : Addr}
theorem err_of (X : K.In h) (G : h.Ns mainGlobals mg) (e : ErrK K x C D fI) (i : InitK P K D fI) (fe : W.nsIn K mainGlobals "FailsError" = some (some (.ref D))) : ErrC P w K mg base x C := by
  obtain ⟨cc, cda, name, qual, file, params, kV, doc, pm, ct, oc, cl, ccl, an, od, cld, cdd, osl, csl, ccs, vs, tf, p0, p1, p2, p3, p4, q0, q1, q2, q3, px, pa, pb, h1, h2, h3, h4, h5, h6, h7, h8, h9, h10⟩ := i.ex
  subst h2
  refine ⟨W.mg_of X G e.ns, e.isc, e.xf, e.isk, e.no, ⟨D, W.mg_of X G fe, e.up⟩, D, fI, _, e.sup, e.iC, i.ty, init_ok (k := 0) h1 rfl h3 h4 h5 h6 h7 h8 rfl rfl (W.mg_none_of X G h9) h10, .all fun us hl => ?_⟩
  match us, hl with
  | [a, b], _ => rfl
theorem hrd_of {st : Stmt} {g CS : Addr} {v : Value} {p1 p2 p3 p4 p5 p6 p7 q1 q2 q3 q4 r1 r2 r3 r4 r5 r6 t1 t2 t3 t4 : Pos} (X : K.In h) (G : h.Ns mainGlobals mg) (a : At1 K "_law_heard" st g v) (hb : defBody st = bHeard p1 p2 p3 p4 p5 p6 p7 q1 q2 q3 q4 r1 r2 r3 r4 r5 r6 t1 t2 t3 t4) (hs : defScope st = scHeard) (bd : Bd "_law_heard" st ["call"])
    (fe : W.nsIn K mainGlobals "FailsError" = some (some (.ref CS))) : HrdC K mg := by
  obtain ⟨oc, od, an, osl, kV, doc, pm, ct, lk⟩ := a.ex
  have b := bd kV doc pm an v ct
  rw [hb, hs] at lk b
  exact ⟨g, CS, defArgs st, .none, kV, doc, pm, v, ct, oc, an, od, osl, p1, p2, p3, p4, p5, p6, p7, q1, q2, q3, q4, r1, r2, r3, r4, r5, r6, t1, t2, t3, t4, W.mg_of X G a.ns, a.kp, W.mg_of X G fe, lk, a.cd, .all b⟩
end
end Py
end
section
set_option Elab.async false
set_option linter.all false
set_option autoImplicit false
set_option maxRecDepth 100000
/-! Plain laws of the meanings: comprehensions, loops. -/
namespace Py
open PySem

section
variable {slots : List Nat} {put : D → Fr → Option Fr} {tst : Fr → Out Bool} {elt : Fr → Out D} {ρ : Fr}
theorem compLoop_eq (p : D → Bool) (g : D → D) : ∀ (ds acc : List D) (ρ' : Fr), wipeF ρ' slots = wipeF ρ slots → acc.length + ds.length ≤ sizeLine →
    (∀ d ∈ ds, ∃ ρ1, put d (wipeF ρ slots) = some ρ1 ∧ tst ρ1 = .ok (p d) ρ1 ∧ (p d = true → elt ρ1 = .ok (g d) ρ1) ∧ wipeF ρ1 slots = wipeF ρ slots) →
    ∃ ρ2, compLoop slots put tst elt ds acc ρ' = .ok (acc ++ (ds.filter p).map g) ρ2 ∧ wipeF ρ2 slots = wipeF ρ slots
  | [], acc, ρ', hw, _, _ => ⟨ρ', by simp [compLoop], hw⟩
  | d :: ds, acc, ρ', hw, hl, h => by
    obtain ⟨ρ1, h1, h2, h3, h4⟩ := h d List.mem_cons_self
    have hl' : acc.length + (ds.length + 1) ≤ sizeLine := hl
    cases hp : p d with
    | false =>
      obtain ⟨ρ2, e, w⟩ := compLoop_eq p g ds acc ρ1 h4 (by omega) fun x hx => h x (List.mem_cons_of_mem _ hx)
      refine ⟨ρ2, ?_, w⟩
      unfold compLoop
      rw [hw, h1]
      simp only [h2, hp, Out.bindN_ok, Bool.false_eq_true, if_false]
      rw [e, List.filter_cons_of_neg (by rw [hp]; exact Bool.false_ne_true)]
    | true =>
      obtain ⟨ρ2, e, w⟩ := compLoop_eq p g ds (acc ++ [g d]) ρ1 h4 (by rw [List.length_append, List.length_singleton]; omega) fun x hx => h x (List.mem_cons_of_mem _ hx)
      refine ⟨ρ2, ?_, w⟩
      unfold compLoop
      rw [hw, h1]
      simp only [h2, hp, h3 hp, Out.bindN_ok, if_true]
      rw [if_pos (by omega), e, List.filter_cons_of_pos hp, List.map_cons, List.append_assoc]
      rfl
theorem compM_eq {src : Out (List D)} {ds : List D} (p : D → Bool) (g : D → D) (hs : src = .ok ds ρ) (hp : plainSlots slots ρ = true) (hu : unwipe ρ (wipeF ρ slots) slots = ρ) (hl : ds.length ≤ sizeLine)
    (h : ∀ d ∈ ds, ∃ ρ1, put d (wipeF ρ slots) = some ρ1 ∧ tst ρ1 = .ok (p d) ρ1 ∧ (p d = true → elt ρ1 = .ok (g d) ρ1) ∧ wipeF ρ1 slots = wipeF ρ slots) : compM slots src put tst elt = .ok (.new ((ds.filter p).map g)) ρ := by
  obtain ⟨ρ2, e, w⟩ := compLoop_eq (ρ := ρ) p g ds [] ρ rfl (by simpa using hl) h
  unfold compM
  rw [hs]
  simp only [Out.bind_ok, hp, if_true, e, List.nil_append, w, hu]
/-- without a test -/
theorem compM_map {src : Out (List D)} {ds : List D} (g : D → D) (hs : src = .ok ds ρ) (hp : plainSlots slots ρ = true) (hu : unwipe ρ (wipeF ρ slots) slots = ρ) (hl : ds.length ≤ sizeLine) (ht : ∀ ρ1, tst ρ1 = .ok true ρ1)
    (h : ∀ d ∈ ds, ∃ ρ1, put d (wipeF ρ slots) = some ρ1 ∧ elt ρ1 = .ok (g d) ρ1 ∧ wipeF ρ1 slots = wipeF ρ slots) : compM slots src put tst elt = .ok (.new (ds.map g)) ρ := by
  have q := compM_eq (slots := slots) (put := put) (tst := tst) (elt := elt) (fun _ => true) g hs hp hu hl fun d hd => by
    obtain ⟨ρ1, h1, h2, h3⟩ := h d hd
    exact ⟨ρ1, h1, ht ρ1, fun _ => h2, h3⟩
  rw [q, List.filter_eq_self.mpr fun _ _ => rfl]
end
/-- rows of ints as values -/
def tD (l : List Int) : D := .tuple (l.map .int)
theorem tD_items (l : List Int) : itemsD (tD l) = some (l.map .int) := rfl
theorem sizeLine_big : 100000 < sizeLine := by decide
end Py
namespace Py
open PySem
theorem fine_int (i : Int) : fine (.int i) = true := by unfold fine; rfl
theorem fine_ints : ∀ l : List Int, PyData.plainAll (l.map .int) = true ∧ PyData.canLayAll0 (l.map .int) = true ∧ PyData.depthAll (l.map .int) = 0
  | [] => ⟨rfl, rfl, rfl⟩
  | i :: l => by
    obtain ⟨h1, h2, h3⟩ := fine_ints l
    refine ⟨?_, ?_, ?_⟩
    · show (PyData.plain (.int i) && PyData.plainAll (l.map .int)) = true
      rw [h1]; rfl
    · show (PyData.canLay0 (.int i) && PyData.canLayAll0 (l.map .int)) = true
      rw [h2]; rfl
    · show max (PyData.depth (.int i)) (PyData.depthAll (l.map .int)) = 0
      rw [h3]; rfl
theorem okL_ints : ∀ l : List Int, okL (l.map .int) = true
  | [] => rfl
  | i :: l => by rw [List.map_cons, okL, okL_ints l]; rfl
theorem okD_tD (l : List Int) : okD (tD l) = true := by unfold tD; rw [okD, okL_ints]
theorem okL_tDs : ∀ l : List (List Int), okL (l.map tD) = true
  | [] => rfl
  | i :: l => by rw [List.map_cons, okL, okL_tDs l, okD_tD]; rfl
theorem fine_tD (l : List Int) : fine (tD l) = true := by
  obtain ⟨h1, h2, h3⟩ := fine_ints l
  unfold fine tD
  rw [show PyData.plain (.tuple (l.map .int)) = PyData.plainAll (l.map .int) from rfl, h1]
  rw [show PyData.canLay0 (.tuple (l.map .int)) = PyData.canLayAll0 (l.map .int) from rfl, h2]
  rw [show PyData.depth (.tuple (l.map .int)) = PyData.depthAll (l.map .int) + 1 from rfl, h3, show okD (.tuple (l.map .int)) = true from okD_tD l]
  rfl
theorem fine_tDs : ∀ ls : List (List Int), PyData.plainAll (ls.map tD) = true ∧ PyData.canLayAll0 (ls.map tD) = true ∧ PyData.depthAll (ls.map tD) ≤ 1
  | [] => ⟨rfl, rfl, Nat.zero_le _⟩
  | l :: ls => by
    obtain ⟨h1, h2, h3⟩ := fine_tDs ls
    have f := fine_tD l
    obtain ⟨a1, a2, _⟩ := fine_parts f
    obtain ⟨b1, b2, b3⟩ := fine_ints l
    refine ⟨?_, ?_, ?_⟩
    · show (PyData.plain (tD l) && PyData.plainAll (ls.map tD)) = true
      rw [h1, a1]; rfl
    · show (PyData.canLay0 (tD l) && PyData.canLayAll0 (ls.map tD)) = true
      rw [h2, a2]; rfl
    · show max (PyData.depthAll (l.map .int) + 1) (PyData.depthAll (ls.map tD)) ≤ 1
      rw [b3]; omega
theorem fine_seq {ds : List D} (h : PyData.plainAll ds = true ∧ PyData.canLayAll0 ds = true ∧ PyData.depthAll ds ≤ 40) (ho : okL ds = true) : fine (.tuple ds) = true ∧ fine (.list ds) = true := by
  obtain ⟨h1, h2, h3⟩ := h
  constructor
  · unfold fine
    rw [show PyData.plain (.tuple ds) = PyData.plainAll ds from rfl, h1, show PyData.canLay0 (.tuple ds) = PyData.canLayAll0 ds from rfl, h2, show PyData.depth (.tuple ds) = PyData.depthAll ds + 1 from rfl, show okD (.tuple ds) = true by rw [okD, ho]]
    simp; omega
  · unfold fine
    rw [show PyData.plain (.list ds) = PyData.plainAll ds from rfl, h1, show PyData.canLay0 (.list ds) = PyData.canLayAll0 ds from rfl, h2, show PyData.depth (.list ds) = PyData.depthAll ds + 1 from rfl, show okD (.list ds) = true by rw [okD, ho]]
    simp; omega
theorem any_int (b : List Int) (i : Int) : ((b.map PyData.int).any fun z => PyData.eqv z (.int i)) = b.contains i := by
  rw [List.any_map, Bool.eq_iff_iff, List.any_eq_true, List.contains_iff_mem]
  constructor
  · rintro ⟨x, hx, h⟩
    have h : PyData.eqv (.int x) (.int i) = true := h
    rw [show PyData.eqv (.int x) (.int i) = decide (x = i) from keyI.eqv x i] at h
    exact of_decide_eq_true h ▸ hx
  · exact fun h => ⟨i, h, by show PyData.eqv (.int i) (.int i) = true; rw [show PyData.eqv (.int i) (.int i) = decide (i = i) from keyI.eqv i i]; exact decide_eq_true rfl⟩
theorem in_tD (i : Int) (b : List Int) : cmpop .In (.int i) (tD b) = some (b.contains i) := by
  unfold cmpop
  simp only [tD_items, fine_int, fine_tD, Bool.and_self, if_true, any_int]
theorem bools_map {α : Type} (f : α → Bool) : ∀ l : List α, boolsD (l.map fun x => PyData.bool (f x)) = some (l.map f)
  | [] => rfl
  | x :: l => by show (boolsD (l.map fun x => PyData.bool (f x))).map (f x :: ·) = _; rw [bools_map f l]; rfl
theorem b1_any {α : Type} (f : α → Bool) (l : List α) : b1M .any (.list (l.map fun x => PyData.bool (f x))) = some (.dt (.bool (l.any f))) := by
  show (boolsD _).map _ = _
  rw [bools_map]
  simp [List.any_map]
theorem b1_all {α : Type} (f : α → Bool) (l : List α) : b1M .all (.list (l.map fun x => PyData.bool (f x))) = some (.dt (.bool (l.all f))) := by
  show (boolsD _).map _ = _
  rw [bools_map]
  simp [List.all_map]
end Py
end
section
set_option Elab.async false
set_option linter.all false
set_option autoImplicit false
set_option maxRecDepth 100000
/-! repr of values without texts in them: how long, of which signs. -/
namespace Py
open PySem

/-- no longer than n, of signs that stand in a text -/
def TOk (s : Str) (n : Nat) : Prop := s.length ≤ n ∧ PyData.strOk s = true
theorem tok_app {a b : Str} {m n : Nat} (h : TOk a m) (k : TOk b n) : TOk (a ++ b) (m + n) := by
  refine ⟨by rw [strLen_append]; exact Nat.add_le_add h.1 k.1, ?_⟩
  have h2 := h.2; have k2 := k.2
  unfold PyData.strOk at *
  show ((a.cps ++ b.cps).all _) = true
  rw [Array.all_append, h2, k2]; rfl
theorem tok_mono {a : Str} {m n : Nat} (h : TOk a m) (k : m ≤ n) : TOk a n := ⟨Nat.le_trans h.1 k, h.2⟩
inductive Toks : List Str → Nat → Prop
  | nil : Toks [] 0
  | cons {s : Str} {m n : Nat} {ts : List Str} : TOk s m → Toks ts n → Toks (s :: ts) (m + 2 + n)
theorem tok_lit (s : String) (n : Nat) (h : (decide ((Str.ofString s).length ≤ n) && PyData.strOk (Str.ofString s)) = true) : TOk (Str.ofString s) n := by
  obtain ⟨h1, h2⟩ := (Bool.and_eq_true _ _).mp h
  exact ⟨of_decide_eq_true h1, h2⟩
theorem tok_join : ∀ {ts : List Str} {n : Nat}, Toks ts n → TOk (Str.join ", " ts) n
  | [], _, .nil => tok_lit "" 0 (by decide +kernel)
  | [x], _, .cons h .nil => by
    show TOk x _
    exact tok_mono h (by omega)
  | x :: y :: r, _, .cons (m := m) (n := n) h t => by
    show TOk (x ++ ", " ++ Str.join ", " (y :: r)) _
    exact tok_app (tok_app h (tok_lit ", " 2 (by decide +kernel))) (tok_join t)
theorem tok_from : ∀ {ts : List Str} {n : Nat}, Toks ts n → ∀ (k : Nat) (acc : Str) (m : Nat), TOk acc m → TOk (textFrom k acc ts) (m + n)
  | [], _, .nil, k, acc, m, h => by simpa [textFrom] using h
  | t :: ts, _, .cons (m := a) (n := b) h r, k, acc, m, ha => by
    have hs : TOk ((if k > 0 then ", " else "" : String) : Str) 2 := by
      by_cases hk : k > 0
      · rw [if_pos hk]; exact tok_lit ", " 2 (by decide +kernel)
      · rw [if_neg hk]; exact tok_lit "" 2 (by decide +kernel)
    have q := tok_from r (k + 1) (acc ++ (if k > 0 then ", " else "" : String) ++ t) (m + 2 + a) (tok_app (tok_app ha hs) h)
    show TOk (textFrom (k + 1) (acc ++ (if k > 0 then ", " else "" : String) ++ t) ts) _
    exact tok_mono q (by omega)
theorem tok_list {ts : List Str} {n : Nat} (h : Toks ts n) : TOk (listText ts) (n + 2) := by
  unfold listText
  exact tok_mono (tok_app (tok_from h 0 "[" 1 (tok_lit "[" 1 (by decide +kernel))) (tok_lit "]" 1 (by decide +kernel))) (by omega)
theorem tok_tuple {ts : List Str} {n : Nat} (h : Toks ts n) : TOk (tupleText ts) (n + 3) := by
  unfold tupleText
  have he : TOk ((if ts.length == 1 then ",)" else ")" : String) : Str) 2 := by
    by_cases hk : (ts.length == 1) = true
    · rw [if_pos hk]; exact tok_lit ",)" 2 (by decide +kernel)
    · rw [if_neg hk]; exact tok_lit ")" 2 (by decide +kernel)
  exact tok_mono (tok_app (tok_app (tok_lit "(" 1 (by decide +kernel)) (tok_join h)) he) (by omega)
theorem tok_int {i : Int} (h1 : -1 ≤ i) (h2 : i ≤ 60) : TOk (toString i) 3 := by
  have q : ∀ k ∈ List.range 62, (decide ((Str.ofString (toString ((k : Int) - 1))).length ≤ 3) && PyData.strOk (Str.ofString (toString ((k : Int) - 1)))) = true := by decide +kernel
  have e : i = (((i + 1).toNat : Nat) : Int) - 1 := by omega
  have h := q (i + 1).toNat (List.mem_range.mpr (by omega))
  rw [← e] at h
  exact tok_lit _ 3 h
mutual
/-- ints of a few signs, truth values, None, rows of these -/
def small : D → Bool
  | .none => true
  | .bool _ => true
  | .int i => decide (-1 ≤ i) && decide (i ≤ 60)
  | .tuple ds => smallL ds
  | .list ds => smallL ds
  | _ => false
def smallL : List D → Bool
  | [] => true
  | d :: ds => small d && smallL ds
end
mutual
def wt : D → Nat
  | .none => 4
  | .bool _ => 5
  | .int _ => 3
  | .tuple ds => wtL ds + 3
  | .list ds => wtL ds + 2
  | _ => 0
def wtL : List D → Nat
  | [] => 0
  | d :: ds => wt d + 2 + wtL ds
end
mutual
theorem small_tok : ∀ d : D, small d = true → TOk d.shown (wt d)
  | .none, _ => by simp only [PyData.shown]; exact tok_lit "None" 4 (by decide +kernel)
  | .bool b, _ => by
    simp only [PyData.shown]
    cases b
    · exact tok_lit "False" 5 (by decide +kernel)
    · exact tok_lit "True" 5 (by decide +kernel)
  | .int i, h => by
    simp only [small, Bool.and_eq_true, decide_eq_true_eq] at h
    simp only [PyData.shown]
    exact tok_int h.1 h.2
  | .tuple ds, h => by
    simp only [small] at h
    simp only [PyData.shown, wt]
    exact tok_tuple (smallL_toks ds h)
  | .list ds, h => by
    simp only [small] at h
    simp only [PyData.shown, wt]
    exact tok_list (smallL_toks ds h)
  | .str _, h => by simp [small] at h
  | .dict _, h => by simp [small] at h
theorem smallL_toks : ∀ ds : List D, smallL ds = true → Toks (PyData.shownAll ds) (wtL ds)
  | [], _ => .nil
  | d :: ds, h => by
    simp only [smallL, Bool.and_eq_true] at h
    exact .cons (small_tok d h.1) (smallL_toks ds h.2)
end
mutual
theorem small_rest : ∀ d : D, small d = true → okD d = true ∧ d.showable = true ∧ d.hasDict = false
  | .none, _ => ⟨rfl, rfl, rfl⟩
  | .bool b, _ => ⟨rfl, rfl, rfl⟩
  | .int i, h => by
    simp only [small, Bool.and_eq_true, decide_eq_true_eq] at h
    refine ⟨rfl, ?_, rfl⟩
    simp only [PyData.showable]
    refine decide_eq_true ?_
    by_cases h0 : i.natAbs = 0
    · rw [h0]; decide
    · refine Nat.lt_of_lt_of_le ((Nat.log2_lt (k := 7) h0).mpr (by omega)) (by decide)
  | .tuple ds, h => by
    simp only [small] at h
    simp only [okD, PyData.showable, PyData.hasDict]
    exact smallL_rest ds h
  | .list ds, h => by
    simp only [small] at h
    simp only [okD, PyData.showable, PyData.hasDict]
    exact smallL_rest ds h
  | .str _, h => by simp [small] at h
  | .dict _, h => by simp [small] at h
theorem smallL_rest : ∀ ds : List D, smallL ds = true → okL ds = true ∧ PyData.showableAll ds = true ∧ PyData.hasDictAll ds = false
  | [], _ => ⟨rfl, rfl, rfl⟩
  | d :: ds, h => by
    simp only [smallL, Bool.and_eq_true] at h
    obtain ⟨a1, a2, a3⟩ := small_rest d h.1
    obtain ⟨b1, b2, b3⟩ := smallL_rest ds h.2
    simp only [okL, PyData.showableAll, PyData.hasDictAll, a1, a2, a3, b1, b2, b3]
    exact ⟨rfl, rfl, rfl⟩
end
theorem show_ok {d : D} (h : small d = true) (hd : d.depth ≤ 40) (hw : wt d ≤ 100000) : showOk d = true := by
  obtain ⟨a1, a2, a3⟩ := small_rest d h
  have t := small_tok d h
  unfold showOk
  rw [a1, a2, a3, decide_eq_true hd, decide_eq_true (Nat.le_trans t.1 (Nat.le_trans hw (by decide)))]
  rfl
theorem show_ok2 {d : D} (h : small d = true) (hd : d.depth ≤ 40) (hw : wt d ≤ 200000) : showOk d = true := by
  obtain ⟨a1, a2, a3⟩ := small_rest d h
  have t := small_tok d h
  unfold showOk
  rw [a1, a2, a3, decide_eq_true hd, decide_eq_true (Nat.le_trans t.1 (Nat.le_trans hw (by decide)))]
  rfl
theorem show_fine {d : D} (h : small d = true) : fine (.str d.shown) = true := by
  have t := small_tok d h
  unfold fine
  have e : PyData.canLay0 (.str d.shown) = true := by simp only [PyData.canLay0]; exact t.2
  rw [e]
  rfl
/-- two reprs of the same -/
theorem show_ne {d : D} (h : small d = true) : cmpop .NotEq (.str d.shown) (.str d.shown) = some false := by
  unfold cmpop
  simp only [show_fine h, Bool.and_self, if_true]
  rw [PySem.SeqAt.eqv_refl_plain _ (fine_parts (show_fine h)).1]; rfl
theorem show_eq {d : D} (h : small d = true) : cmpop .Eq (.str d.shown) (.str d.shown) = some true := by
  unfold cmpop
  simp only [show_fine h, Bool.and_self, if_true]
  rw [PySem.SeqAt.eqv_refl_plain _ (fine_parts (show_fine h)).1]
end Py
end
section
set_option Elab.async false
set_option linter.all false
set_option autoImplicit false
set_option maxRecDepth 100000
/-! Rules to run a term by hand: one for each form. -/
namespace Py
open PySem
section
variable {Φ : Fx} {io : List Nat} {ρ ρ1 ρ2 ρ3 ρ4 : Fr} {a b c e : E} {x y z r : R} {d d1 d2 d3 : D} {ds es : List D} {p q : Pos} {i : Nat} {s : Str}
theorem w_val (h : ρ[i]? = some (.val d)) : ev Φ (.var i s p) ρ = .ok (.sl i) ρ := by simp only [ev, varM, h]
theorem w_own (h : ρ[i]? = some (.own ds)) : ev Φ (.var i s p) ρ = .ok (.sl i) ρ := by simp only [ev, varM, h]
theorem w_look_val (h : ρ[i]? = some (.val d)) : (R.sl i).look ρ = some d := by simp [R.look, h, Sl.look]
theorem w_b1 {k : B1} (h : ev Φ a ρ = .ok x ρ1) (hl : x.look ρ1 = some d) (hb : b1M k d = some r) : ev Φ (.b1 k p a q) ρ = .ok r ρ1 := by simp [ev, h, hl, hb, ask]
theorem w_cmp {op : CmpOp} {k : Bool} (h : ev Φ a ρ = .ok x ρ1) (h2 : ev Φ b ρ1 = .ok y ρ2) (hx : x.look ρ2 = some d1) (hy : y.look ρ2 = some d2) (hk : cmpop op d1 d2 = some k) : ev Φ (.cmp op a b p) ρ = .ok (.dt (.bool k)) ρ2 := by simp [ev, h, h2, hx, hy, hk, ask]
theorem t_cmp {op : CmpOp} {k : Bool} (h : ev Φ a ρ = .ok x ρ1) (h2 : ev Φ b ρ1 = .ok y ρ2) (hx : x.look ρ2 = some d1) (hy : y.look ρ2 = some d2) (hk : cmpop op d1 d2 = some k) : tst Φ (.cmp op a b p) ρ = .ok k ρ2 := by simp [tst, h, h2, hx, hy, hk, ask]
theorem w_bin {op : Operator} (h : ev Φ a ρ = .ok x ρ1) (h2 : ev Φ b ρ1 = .ok y ρ2) (hx : x.look ρ2 = some d1) (hy : y.look ρ2 = some d2) (hk : binop op d1 d2 = some r) : ev Φ (.bin op a b p) ρ = .ok r ρ2 := by simp [ev, h, h2, hx, hy, hk, ask]
theorem t_nt {k : Bool} (h : tst Φ a ρ = .ok k ρ1) : tst Φ (.nt a p) ρ = .ok (!k) ρ1 := by simp [tst, h]
theorem w_esc (h : ev Φ a ρ = .ok x ρ1) (he : x.esc ρ1 = .ok d ρ2) : escM (ev Φ a ρ) = .ok d ρ2 := by simp [escM, h, he]
theorem t_call {f : Nat} {n : Str} {as : Es} {k : Bool} (h : ev Φ (.call f n p as q) ρ = .ok x ρ1) (hl : x.look ρ1 = some (.bool k)) : tst Φ (.call f n p as q) ρ = .ok k ρ1 := by
  simp only [ev] at h
  simp [tst, tstV, h, hl, truthD, ask]
theorem t_b1 {k : B1} {v : Bool} (h : ev Φ (.b1 k p a q) ρ = .ok x ρ1) (hl : x.look ρ1 = some (.bool v)) : tst Φ (.b1 k p a q) ρ = .ok v ρ1 := by
  simp only [ev] at h
  show tstV _ = _
  rw [h]
  simp [tstV, hl, truthD, ask]
theorem w_nt {v : Bool} (h : ev Φ a ρ = .ok x ρ1) (hl : (x.look ρ1).bind truthD = some v) : ev Φ (.nt a p) ρ = .ok (.dt (.bool (!v))) ρ1 := by simp only [ev, h, Out.bind_ok, hl]; rfl
theorem w_slen (h : ev Φ a ρ = .ok x ρ1) (he : x.esc ρ1 = .ok d ρ2) (hd : itemsD d = some ds) : evSr Φ (.e a) ρ = .ok ds ρ2 := by simp [evSr, w_esc h he, hd, ask]
/-- one argument, two, three: values -/
theorem w_call1 {f : Nat} {n : Str} (hm : Φ.md f = [false]) (h : ev Φ a ρ = .ok x ρ1) (he : x.esc ρ1 = .ok d ρ2) {w : Sl} (hc : Φ.call f [.val d] = .ok w []) (hw : ofSl w = some r) : ev Φ (.call f n p (.cons a .nil) q) ρ = .ok r ρ2 := by
  simp [ev, evr, h, callM, hm, prep, he, hc, back, hw]
theorem w_call2 {f : Nat} {n : Str} (hm : Φ.md f = [false, false]) (h : ev Φ a ρ = .ok x ρ1) (h2 : ev Φ b ρ1 = .ok y ρ2) (he : x.esc ρ2 = .ok d1 ρ3) (he2 : y.esc ρ3 = .ok d2 ρ4) {w : Sl} (hc : Φ.call f [.val d1, .val d2] = .ok w []) (hw : ofSl w = some r) : ev Φ (.call f n p (.cons a (.cons b .nil)) q) ρ = .ok r ρ4 := by
  simp [ev, evr, h, h2, callM, hm, prep, he, he2, hc, back, hw]
theorem w_call3 {ρ5 ρ6 : Fr} {f : Nat} {n : Str} (hm : Φ.md f = [false, false, false]) (h : ev Φ a ρ = .ok x ρ1) (h2 : ev Φ b ρ1 = .ok y ρ2) (h3 : ev Φ c ρ2 = .ok z ρ3) (he : x.esc ρ3 = .ok d1 ρ4) (he2 : y.esc ρ4 = .ok d2 ρ5) (he3 : z.esc ρ5 = .ok d3 ρ6) {w : Sl} (hc : Φ.call f [.val d1, .val d2, .val d3] = .ok w []) (hw : ofSl w = some r) : ev Φ (.call f n p (.cons a (.cons b (.cons c .nil))) q) ρ = .ok r ρ6 := by
  simp [ev, evr, h, h2, h3, callM, hm, prep, he, he2, he3, hc, back, hw]
/-- comprehensions -/
theorem w_map {t : Tg} {src : Sr} {sc : Scope} {own : List (Str × Nat)} {ρ0 : Fr} (g : D → D) (hs : evSr Φ src ρ0 = .ok ds ρ) (hp : plainSlots (own.map (·.2)) ρ = true) (hu : unwipe ρ (wipeF ρ (own.map (·.2))) (own.map (·.2)) = ρ) (hl : ds.length ≤ sizeLine)
    (h : ∀ d ∈ ds, ∃ ρ1, t.put d (wipeF ρ (own.map (·.2))) = some ρ1 ∧ escM (ev Φ e ρ1) = .ok (g d) ρ1 ∧ wipeF ρ1 (own.map (·.2)) = wipeF ρ (own.map (·.2))) : ev Φ (.comp e t src none sc own p) ρ0 = .ok (.new (ds.map g)) ρ := by
  simp only [ev]
  exact compM_map g hs hp hu hl (fun _ => rfl) h
theorem w_flt {t : Tg} {src : Sr} {sc : Scope} {own : List (Str × Nat)} {ρ0 : Fr} (k : D → Bool) (g : D → D) (hs : evSr Φ src ρ0 = .ok ds ρ) (hp : plainSlots (own.map (·.2)) ρ = true) (hu : unwipe ρ (wipeF ρ (own.map (·.2))) (own.map (·.2)) = ρ) (hl : ds.length ≤ sizeLine)
    (h : ∀ d ∈ ds, ∃ ρ1, t.put d (wipeF ρ (own.map (·.2))) = some ρ1 ∧ tst Φ c ρ1 = .ok (k d) ρ1 ∧ (k d = true → escM (ev Φ e ρ1) = .ok (g d) ρ1) ∧ wipeF ρ1 (own.map (·.2)) = wipeF ρ (own.map (·.2))) : ev Φ (.comp e t src (some c) sc own p) ρ0 = .ok (.new ((ds.filter k).map g)) ρ := by
  simp only [ev]
  exact compM_eq k g hs hp hu hl h
/-- statements -/
theorem w_ret {rest : Ss} (h : ev Φ e ρ = .ok r ρ1) : evSs Φ io (.cons (.ret e p) rest) ρ = .rt r ρ1 := by simp [evSs, evS, h]
theorem w_asg {n : Str} {rest : Ss} {o : SO} (h : ev Φ e ρ = .ok r ρ1) (hp : putR io i r ρ1 = some ρ2) (hr : evSs Φ io rest ρ2 = o) : evSs Φ io (.cons (.asg i n p e q) rest) ρ = o := by simp [evSs, evS, h, hp, hr]
theorem w_exp {rest : Ss} {o : SO} (h : ev Φ e ρ = .ok r ρ1) (hr : evSs Φ io rest ρ1 = o) : evSs Φ io (.cons (.exp e p) rest) ρ = o := by simp [evSs, evS, h, hr]
theorem w_then {A B rest : Ss} {o : SO} (h : tst Φ c ρ = .ok true ρ1) (hr : (evSs Φ io A ρ1).thn (evSs Φ io rest) = o) : evSs Φ io (.cons (.iff c A B p) rest) ρ = o := by simp [evSs, evS, h, hr]
theorem w_else {A B rest : Ss} {o : SO} (h : tst Φ c ρ = .ok false ρ1) (hr : (evSs Φ io B ρ1).thn (evSs Φ io rest) = o) : evSs Φ io (.cons (.iff c A B p) rest) ρ = o := by simp [evSs, evS, h, hr]
theorem w_run {fn : Fn} {args : List Sl} {o : CO} (hl : args.length = fn.np) (h : evSs Φ (ioOf 0 fn.md) fn.body (args ++ List.replicate (fn.nn - fn.np) .no) = .rt r ρ) (he : exitM (ioOf 0 fn.md) r ρ = o) : runFn Φ fn args = o := by simp [runFn, hl, h, he]
theorem w_for {t : Tg} {src : Sr} {body rest : Ss} {o : SO} (ht : t.slots.any io.contains = false) (hs : evSr Φ src ρ = .ok ds ρ1) (hf : forLoop t.put (evSs Φ io body) ds ρ1 = .nx ρ2) (hr : evSs Φ io rest ρ2 = o) : evSs Φ io (.cons (.for_ t src body p) rest) ρ = o := by simp only [evSs, evS, ht, hs, Out.toS_ok, hf, SO.thn_nx, hr, Bool.false_eq_true, if_false]
theorem for_rel {β : Type} {put : D → Fr → Option Fr} {body : Fr → SO} (J : β → Fr → Prop) (f : β → D → β) : ∀ (ds : List D) (s : β) (ρ : Fr), J s ρ →
    (∀ s d ρ, d ∈ ds → J s ρ → ∃ ρ1 ρ2, put d ρ = some ρ1 ∧ body ρ1 = .nx ρ2 ∧ J (f s d) ρ2) → ∃ ρ', forLoop put body ds ρ = .nx ρ' ∧ J (ds.foldl f s) ρ'
  | [], s, ρ, hj, _ => ⟨ρ, rfl, hj⟩
  | d :: ds, s, ρ, hj, h => by
    obtain ⟨ρ1, ρ2, h1, h2, h3⟩ := h s d ρ List.mem_cons_self hj
    obtain ⟨ρ', h4, h5⟩ := for_rel J f ds (f s d) ρ2 h3 fun s d ρ hd => h s d ρ (List.mem_cons_of_mem _ hd)
    exact ⟨ρ', by rw [forLoop, h1]; simp only [h2]; exact h4, h5⟩
theorem w_isi {t : Ty} {pf pt : Pos} (h : ev Φ a ρ = .ok x ρ1) (hl : x.look ρ1 = some d) (hb : isiM t d = some r) : ev Φ (.isi pf a t pt q) ρ = .ok r ρ1 := by simp [ev, h, hl, hb, ask]
theorem t_isi {t : Ty} {pf pt : Pos} {v : Bool} (h : ev Φ a ρ = .ok x ρ1) (hl : x.look ρ1 = some d) (hb : isiM t d = some (.dt (.bool v))) : tst Φ (.isi pf a t pt q) ρ = .ok v ρ1 := by
  show tstV _ = _
  rw [h]; simp only [Out.bind_ok, hl, Option.bind_some, hb, ask, tstV]; rfl
variable {k k' cc : Bool} {rs : Es} {o : Out R} {ob : Out Bool}
theorem w_bo (h : ev Φ a ρ = .ok x ρ1) (hr : evBo Φ cc rs x ρ1 = o) : ev Φ (.bo cc a rs p) ρ = o := by simp [ev, h, hr]
theorem bo_nil : evBo Φ cc .nil x ρ = .ok x ρ := by simp [evBo]
theorem bo_go (ht : (x.look ρ).bind truthD = some cc) (h : ev Φ a ρ = .ok y ρ1) (hr : evBo Φ cc rs y ρ1 = o) : evBo Φ cc (.cons a rs) x ρ = o := by simp [evBo, ht, h, hr]
theorem bo_stop (ht : (x.look ρ).bind truthD = some (!cc)) : evBo Φ cc (.cons a rs) x ρ = .ok x ρ := by cases cc <;> simp [evBo, ht]
theorem t_bo (h : tst Φ a ρ = .ok k ρ1) (hr : tstBo Φ cc rs k ρ1 = ob) : tst Φ (.bo cc a rs p) ρ = ob := by simp [tst, h, hr]
theorem tb_nil : tstBo Φ cc .nil k ρ = .ok k ρ := by simp [tstBo]
theorem tb_go (h : tst Φ a ρ = .ok k ρ1) (hr : tstBo Φ cc rs k ρ1 = ob) : tstBo Φ cc (.cons a rs) cc ρ = ob := by simp [tstBo, h, hr]
theorem tb_stop : tstBo Φ cc (.cons a rs) (!cc) ρ = .ok (!cc) ρ := by cases cc <;> simp [tstBo]
theorem w_int {n : Int} {m : Nat} : ev Φ (.int n m p) ρ = .ok (.dt (.int n)) ρ := by simp [ev]
theorem w_glI {n : Int} : ev Φ (.glI s n p) ρ = .ok (.dt (.int n)) ρ := by simp [ev]
theorem w_bl {n : Bool} {m : Nat} : ev Φ (.bl n m p) ρ = .ok (.dt (.bool n)) ρ := by simp [ev]
theorem w_cmp2 {o1 o2 : CmpOp} (h : ev Φ a ρ = .ok x ρ1) (h2 : ev Φ b ρ1 = .ok y ρ2) (h3 : ev Φ c ρ2 = .ok z ρ3) (hx : x.look ρ2 = some d1) (hy : y.look ρ2 = some d2) (hy3 : y.look ρ3 = some d2) (hz : z.look ρ3 = some d3)
    (hk : cmpop o1 d1 d2 = some true) (hk2 : cmpop o2 d2 d3 = some k) : ev Φ (.cmp2 o1 o2 a b c p) ρ = .ok (.dt (.bool k)) ρ3 := by simp [ev, cmp2M, boolR, h, h2, h3, hx, hy, hy3, hz, hk, hk2, ask]
theorem w_cmp2f {o1 o2 : CmpOp} (h : ev Φ a ρ = .ok x ρ1) (h2 : ev Φ b ρ1 = .ok y ρ2) (hx : x.look ρ2 = some d1) (hy : y.look ρ2 = some d2)
    (hk : cmpop o1 d1 d2 = some false) : ev Φ (.cmp2 o1 o2 a b c p) ρ = .ok (.dt (.bool false)) ρ2 := by simp [ev, cmp2M, boolR, h, h2, hx, hy, hk, ask]
end
theorem isNon_int (i : Int) : isNon (.int i) = false := rfl
theorem cmp_lt (i j : Int) : cmpop .Lt (.int i) (.int j) = some (decide (i < j)) := by
  unfold cmpop; simp [W.alike, fine_int, isNon_int, W.dataLt_int]
theorem cmp_gt (i j : Int) : cmpop .Gt (.int i) (.int j) = some (decide (j < i)) := by
  unfold cmpop; simp only [W.alike, fine_int, isNon_int, W.dataLt_int, Bool.and_self, Bool.not_false, if_true]
theorem cmp_le (i j : Int) : cmpop .LtE (.int i) (.int j) = some (decide (i ≤ j)) := by
  unfold cmpop
  simp only [W.alike, fine_int, isNon_int, W.dataLt_int, Bool.and_self, Bool.not_false, if_true]
  by_cases h : j < i
  · simp [h]
  · simp [h]; try omega
theorem isi_fine {t : Ty} {d : D} (h : fine d = true) : isiM t d = some (.dt (.bool (t.has d))) := by
  unfold isiM; rw [(fine_parts h).1, fine_okD h]; rfl
end Py
end
section
set_option Elab.async false
set_option linter.all false
set_option autoImplicit false
set_option maxRecDepth 100000
namespace Py
open PySem
section
variable {Φ : Fx} {io : List Nat} {ρ ρ1 ρ2 ρ3 ρ4 : Fr} {a b c e : E} {x y z r : R} {d d1 d2 d3 : D} {ds es ks : List D} {p q : Pos} {i : Nat} {s : Str}
theorem w_neg {n : Int} (h : ev Φ a ρ = .ok x ρ1) (hl : x.look ρ1 = some (.int n)) : ev Φ (.neg a p) ρ = .ok (.dt (.int (-n))) ρ1 := by simp [ev, h, hl]
theorem w_idx (h : ev Φ a ρ = .ok x ρ1) (h2 : ev Φ b ρ1 = .ok y ρ2) (hx : x.look ρ2 = some d1) (hy : y.look ρ2 = some d2) (hk : idxM d1 d2 = some r) : ev Φ (.idx a b p) ρ = .ok r ρ2 := by simp [ev, h, h2, hx, hy, hk, Py.ask]
theorem w_app {pa pb : Pos} {n : Str} (ho : ρ[i]? = some (.own es)) (h : ev Φ a ρ = .ok x ρ1) (he : x.esc ρ1 = .ok d ρ2) (ho2 : ρ2[i]? = some (.own ds)) (hl : ds.length < sizeLine) : ev Φ (.app i n pa pb a q) ρ = .ok (.dt .none) (ρ2.set i (.own (ds ++ [d]))) := by
  simp [ev, isOwn, ho, w_esc h he, appM, ho2, hl]
theorem keyLoop_call {f : Nat} (key : D → D) (hm : Φ.md f = [false]) : ∀ ds : List D, (∀ d ∈ ds, Φ.call f [.val d] = .ok (.val (key d)) []) → keyLoop (fun d ρ => escM (callM Φ f [.dt d] ρ)) ds ρ = .ok (ds.map key) ρ
  | [], _ => rfl
  | d :: ds, h => by
    have q := keyLoop_call key hm ds fun d hd => h d (List.mem_cons_of_mem _ hd)
    have e : escM (callM Φ f [.dt d] ρ) = .ok (key d) ρ := by simp [callM, hm, prep, R.esc, h d List.mem_cons_self, back, ofSl, escM]
    rw [keyLoop, e]
    simp only [Out.bindN_ok, Out.bind_ok, q, List.map_cons]
theorem w_skey {f : Nat} {n : Str} {pa pb pc : Pos} (key : D → D) (hm : Φ.md f = [false]) (h : ev Φ a ρ = .ok x ρ1) (he : x.esc ρ1 = .ok d ρ2) (hd : itemsD d = some ds) (hc : ∀ d ∈ ds, Φ.call f [.val d] = .ok (.val (key d)) []) (hk : skeyM (ds.map key) ds = some r) : ev Φ (.skey pa a pb f n pc q) ρ = .ok r ρ2 := by
  simp only [ev, w_esc h he, keysM, Out.bind_ok, hd, keyLoop_call key hm ds hc, hk, Py.ask]
theorem w_sset {pa pb pc : Pos} (h : ev Φ a ρ = .ok x ρ1) (hl : x.look ρ1 = some d) (hk : ssetM d = some r) : ev Φ (.sset pa pb a pc q) ρ = .ok r ρ1 := by simp [ev, h, hl, hk, Py.ask]
theorem w_par {j : Nat} {n1 n2 : Str} {p1 p2 p3 p4 p5 : Pos} {k1 k2 : Nat} {rest : Ss} {o : SO} (h : ev Φ a ρ = .ok (.new ds) ρ1) (h2 : ev Φ b ρ1 = .ok (.new es) ρ2) (hij : i ≠ j) (hp : putR io i (.new ds) ρ2 = some ρ3) (hp2 : putR io j (.new es) ρ3 = some ρ4) (hr : evSs Φ io rest ρ4 = o) :
    evSs Φ io (.cons (.par i n1 p1 j n2 p2 k1 p3 a b k2 p4 p5) rest) ρ = o := by simp [evSs, evS, h, h2, hij, hp, hp2, hr]
end
end Py
end
section
set_option Elab.async false
set_option linter.all false
set_option maxRecDepth 100000
set_option maxHeartbeats 8000000
namespace K11
open PySem PySem.Spec PyProof.Rows L2 Py
def top (i : Nat) : Stmt := PySem.Challenge.pw_leastthatfails_k11_whole_lots_that_cross.main.body.getD i (.Pass ⟨0, 0, 0, 0⟩)
def blt : List Str := ["len", "all", "any", "sorted", "tuple", "list", "max", "min", "sum", "abs", "int", "bool", "isinstance", "set", "range", "zip", "repr", "enumerate"]
def fns : List (Nat × Str × Nat) := [(0, ("is_integer" : Str), 1), (1, ("is_between" : Str), 3), (2, ("is_tuple" : Str), 3), (3, ("is_ascending" : Str), 1), (4, ("is_lot" : Str), 2), (5, ("meets" : Str), 2), (6, ("is_within" : Str), 2), (7, ("least_of" : Str), 1), (8, ("by_size" : Str), 1), (9, ("is_many" : Str), 1), (10, ("check_many" : Str), 1), (11, ("are_lots" : Str), 2), (12, ("check_lots" : Str), 2), (13, ("crossed_by" : Str), 2), (14, ("crossing_of" : Str), 1), (15, ("is_alone_in" : Str), 3), (16, ("crossing" : Str), 2), (17, ("does_cross" : Str), 3), (18, ("is_least_crossing" : Str), 3), (19, ("fewest_crossing" : Str), 2), (20, ("apart_lots" : Str), 2), (21, ("cut_short" : Str), 3), (22, ("_law_pot" : Str), 2), (23, ("_law_take" : Str), 2), (24, ("_law_of" : Str), 2), (25, ("_law_places" : Str), 2), (26, ("_law_lot" : Str), 2), (27, ("_law_lots" : Str), 1), (28, ("_law_in" : Str), 2), (29, ("_law_least" : Str), 1), (30, ("_law_meets" : Str), 2), (31, ("_law_apart" : Str), 1), (32, ("_law_power" : Str), 1), (33, ("_law_are_refused" : Str), 3), (34, ("_law_caught" : Str), 3), (35, ("_law_right" : Str), 1), (36, ("law" : Str), 1)]
def gis : Gb := ⟨[("MOST_PARTS", 40), ("MOST_LOTS", 400)], [("crossing", 199), ("fewest_crossing", 216), ("apart_lots", 221)], [("BadMany", 111), ("BadLots", 123), ("TooMany", 147), ("BadLot", 99), ("BadNumber", 135)], true⟩
def b0 : Ss := (.cons (.ret (.bo true (.isi ⟨3, 11, 3, 21⟩ (.var 0 "value" ⟨3, 22, 3, 27⟩) .int ⟨3, 29, 3, 32⟩ ⟨3, 11, 3, 33⟩) (.cons (.nt (.isi ⟨3, 43, 3, 53⟩ (.var 0 "value" ⟨3, 54, 3, 59⟩) .bool ⟨3, 61, 3, 65⟩ ⟨3, 43, 3, 66⟩) ⟨3, 39, 3, 66⟩) .nil) ⟨3, 11, 3, 67⟩) ⟨3, 4, 3, 67⟩) .nil)
def n0 : List Str := ["value"]
def p0 : List Str := ["value"]
def f0 : Fn := ⟨1, 1, [false], b0⟩
def b1 : Ss := (.cons (.ret (.bo true (.call 0 "is_integer" ⟨5, 11, 5, 21⟩ (.cons (.var 0 "value" ⟨5, 22, 5, 27⟩) .nil) ⟨5, 11, 5, 28⟩) (.cons (.cmp2 PySem.CmpOp.LtE PySem.CmpOp.LtE (.var 1 "low" ⟨5, 33, 5, 36⟩) (.var 0 "value" ⟨5, 40, 5, 45⟩) (.var 2 "high" ⟨5, 49, 5, 53⟩) ⟨5, 33, 5, 53⟩) .nil) ⟨5, 11, 5, 53⟩) ⟨5, 4, 5, 53⟩) .nil)
def n1 : List Str := ["value", "low", "high"]
def p1 : List Str := ["value", "low", "high"]
def f1 : Fn := ⟨3, 3, [false, false, false], b1⟩
def b2 : Ss := (.cons (.ret (.bo true (.isi ⟨7, 11, 7, 21⟩ (.var 0 "value" ⟨7, 22, 7, 27⟩) .tuple ⟨7, 29, 7, 34⟩ ⟨7, 11, 7, 35⟩) (.cons (.cmp2 PySem.CmpOp.LtE PySem.CmpOp.LtE (.var 1 "low" ⟨7, 40, 7, 43⟩) (.b1 .len ⟨7, 47, 7, 50⟩ (.var 0 "value" ⟨7, 51, 7, 56⟩) ⟨7, 47, 7, 57⟩) (.var 2 "high" ⟨7, 61, 7, 65⟩) ⟨7, 40, 7, 65⟩) .nil) ⟨7, 11, 7, 65⟩) ⟨7, 4, 7, 65⟩) .nil)
def n2 : List Str := ["value", "low", "high"]
def p2 : List Str := ["value", "low", "high"]
def f2 : Fn := ⟨3, 3, [false, false, false], b2⟩
def sc0 : Scope := { kind := PySem.ScopeKind.function, names := [(".0", PySem.NameKind.local), ("one", PySem.NameKind.local), ("other", PySem.NameKind.local)], isGenerator := false, isCoroutine := false }
def b3 : Ss := (.cons (.ret (.b1 .all ⟨9, 11, 9, 14⟩ (.comp (.cmp PySem.CmpOp.Lt (.var 1 "one" ⟨9, 16, 9, 19⟩) (.var 2 "other" ⟨9, 22, 9, 27⟩) ⟨9, 16, 9, 27⟩) (.row [(1, "one", ⟨9, 32, 9, 35⟩), (2, "other", ⟨9, 37, 9, 42⟩)] 0 ⟨9, 32, 9, 42⟩) (.zip ⟨9, 46, 9, 49⟩ (.var 0 "some" ⟨9, 50, 9, 54⟩) (.slo (.var 0 "some" ⟨9, 56, 9, 60⟩) (.int 1 0 ⟨9, 61, 9, 62⟩) ⟨9, 61, 9, 63⟩ ⟨9, 56, 9, 64⟩) ⟨9, 46, 9, 65⟩) none sc0 [("one", 1), ("other", 2)] ⟨9, 15, 9, 66⟩) ⟨9, 11, 9, 67⟩) ⟨9, 4, 9, 67⟩) .nil)
def n3 : List Str := ["some", "one", "other"]
def p3 : List Str := ["some"]
def f3 : Fn := ⟨1, 3, [false], b3⟩
def sc1 : Scope := { kind := PySem.ScopeKind.function, names := [(".0", PySem.NameKind.local), ("one", PySem.NameKind.local), ("is_between", PySem.NameKind.globalImplicit), ("many", PySem.NameKind.free)], isGenerator := false, isCoroutine := false }
def b4 : Ss := (.cons (.iff (.bo false (.nt (.isi ⟨11, 11, 11, 21⟩ (.var 0 "value" ⟨11, 22, 11, 27⟩) .tuple ⟨11, 29, 11, 34⟩ ⟨11, 11, 11, 35⟩) ⟨11, 7, 11, 35⟩) (.cons (.nt (.b1 .all ⟨11, 43, 11, 46⟩ (.comp (.call 1 "is_between" ⟨11, 48, 11, 58⟩ (.cons (.var 2 "one" ⟨11, 59, 11, 62⟩) (.cons (.int 0 0 ⟨11, 64, 11, 65⟩) (.cons (.bin PySem.Operator.Sub (.var 1 "many" ⟨11, 67, 11, 71⟩) (.int 1 0 ⟨11, 74, 11, 75⟩) ⟨11, 67, 11, 75⟩) .nil))) ⟨11, 48, 11, 76⟩) (.nm 2 "one" ⟨11, 81, 11, 84⟩) (.e (.var 0 "value" ⟨11, 88, 11, 93⟩)) none sc1 [("one", 2)] ⟨11, 47, 11, 94⟩) ⟨11, 43, 11, 95⟩) ⟨11, 39, 11, 95⟩) .nil) ⟨11, 7, 11, 95⟩) (.cons (.ret (.bl false 0 ⟨12, 15, 12, 20⟩) ⟨12, 8, 12, 20⟩) .nil) .nil ⟨11, 4, 12, 20⟩) (.cons (.ret (.call 3 "is_ascending" ⟨13, 11, 13, 23⟩ (.cons (.var 0 "value" ⟨13, 24, 13, 29⟩) .nil) ⟨13, 11, 13, 30⟩) ⟨13, 4, 13, 30⟩) .nil))
def n4 : List Str := ["value", "many", "one"]
def p4 : List Str := ["value", "many"]
def f4 : Fn := ⟨2, 3, [false, false], b4⟩
def sc2 : Scope := { kind := PySem.ScopeKind.function, names := [(".0", PySem.NameKind.local), ("part", PySem.NameKind.local), ("other", PySem.NameKind.free)], isGenerator := false, isCoroutine := false }
def b5 : Ss := (.cons (.ret (.b1 .any ⟨15, 11, 15, 14⟩ (.comp (.cmp PySem.CmpOp.In (.var 2 "part" ⟨15, 16, 15, 20⟩) (.var 1 "other" ⟨15, 24, 15, 29⟩) ⟨15, 16, 15, 29⟩) (.nm 2 "part" ⟨15, 34, 15, 38⟩) (.e (.var 0 "one" ⟨15, 42, 15, 45⟩)) none sc2 [("part", 2)] ⟨15, 15, 15, 46⟩) ⟨15, 11, 15, 47⟩) ⟨15, 4, 15, 47⟩) .nil)
def n5 : List Str := ["one", "other", "part"]
def p5 : List Str := ["one", "other"]
def f5 : Fn := ⟨2, 3, [false, false], b5⟩
def sc3 : Scope := { kind := PySem.ScopeKind.function, names := [(".0", PySem.NameKind.local), ("part", PySem.NameKind.local), ("other", PySem.NameKind.free)], isGenerator := false, isCoroutine := false }
def b6 : Ss := (.cons (.ret (.b1 .all ⟨17, 11, 17, 14⟩ (.comp (.cmp PySem.CmpOp.In (.var 2 "part" ⟨17, 16, 17, 20⟩) (.var 1 "other" ⟨17, 24, 17, 29⟩) ⟨17, 16, 17, 29⟩) (.nm 2 "part" ⟨17, 34, 17, 38⟩) (.e (.var 0 "one" ⟨17, 42, 17, 45⟩)) none sc3 [("part", 2)] ⟨17, 15, 17, 46⟩) ⟨17, 11, 17, 47⟩) ⟨17, 4, 17, 47⟩) .nil)
def n6 : List Str := ["one", "other", "part"]
def p6 : List Str := ["one", "other"]
def f6 : Fn := ⟨2, 3, [false, false], b6⟩
def sc4 : Scope := { kind := PySem.ScopeKind.function, names := [(".0", PySem.NameKind.local), ("one", PySem.NameKind.local), ("is_within", PySem.NameKind.globalImplicit), ("lot", PySem.NameKind.free)], isGenerator := false, isCoroutine := false }
def b7 : Ss := (.cons (.par 1 "found" ⟨19, 4, 19, 9⟩ 2 "lesser" ⟨19, 11, 19, 17⟩ 0 ⟨19, 4, 19, 17⟩ (.lst .nil ⟨19, 21, 19, 23⟩) (.lst .nil ⟨19, 25, 19, 27⟩) 0 ⟨19, 20, 19, 28⟩ ⟨19, 4, 19, 28⟩) (.cons (.for_ (.nm 3 "lot" ⟨20, 8, 20, 11⟩) (.e (.skey ⟨20, 15, 20, 21⟩ (.sset ⟨20, 22, 20, 28⟩ ⟨20, 29, 20, 32⟩ (.var 0 "lots" ⟨20, 33, 20, 37⟩) ⟨20, 29, 20, 38⟩ ⟨20, 22, 20, 39⟩) ⟨20, 41, 20, 52⟩ 8 "by_size" ⟨20, 45, 20, 52⟩ ⟨20, 15, 20, 53⟩)) (.cons (.iff (.bo true (.cmp PySem.CmpOp.NotEq (.var 1 "found" ⟨21, 11, 21, 16⟩) (.lst .nil ⟨21, 20, 21, 22⟩) ⟨21, 11, 21, 22⟩) (.cons (.cmp PySem.CmpOp.Lt (.b1 .len ⟨21, 27, 21, 30⟩ (.idx (.var 1 "found" ⟨21, 31, 21, 36⟩) (.neg (.int 1 0 ⟨21, 38, 21, 39⟩) ⟨21, 37, 21, 39⟩) ⟨21, 31, 21, 40⟩) ⟨21, 27, 21, 41⟩) (.b1 .len ⟨21, 44, 21, 47⟩ (.var 3 "lot" ⟨21, 48, 21, 51⟩) ⟨21, 44, 21, 52⟩) ⟨21, 27, 21, 52⟩) .nil) ⟨21, 11, 21, 52⟩) (.cons (.asg 2 "lesser" ⟨22, 12, 22, 18⟩ (.b1 .list ⟨22, 21, 22, 25⟩ (.var 1 "found" ⟨22, 26, 22, 31⟩) ⟨22, 21, 22, 32⟩) ⟨22, 12, 22, 32⟩) .nil) .nil ⟨21, 8, 22, 32⟩) (.cons (.iff (.nt (.b1 .any ⟨23, 15, 23, 18⟩ (.comp (.call 6 "is_within" ⟨23, 20, 23, 29⟩ (.cons (.var 4 "one" ⟨23, 30, 23, 33⟩) (.cons (.var 3 "lot" ⟨23, 35, 23, 38⟩) .nil)) ⟨23, 20, 23, 39⟩) (.nm 4 "one" ⟨23, 44, 23, 47⟩) (.e (.var 2 "lesser" ⟨23, 51, 23, 57⟩)) none sc4 [("one", 4)] ⟨23, 19, 23, 58⟩) ⟨23, 15, 23, 59⟩) ⟨23, 11, 23, 59⟩) (.cons (.exp (.app 1 "found" ⟨24, 12, 24, 17⟩ ⟨24, 12, 24, 24⟩ (.var 3 "lot" ⟨24, 25, 24, 28⟩) ⟨24, 12, 24, 29⟩) ⟨24, 12, 24, 29⟩) .nil) .nil ⟨23, 8, 24, 29⟩) .nil)) ⟨20, 4, 24, 29⟩) (.cons (.ret (.var 1 "found" ⟨25, 11, 25, 16⟩) ⟨25, 4, 25, 16⟩) .nil)))
def n7 : List Str := ["lots", "found", "lesser", "lot", "one"]
def p7 : List Str := ["lots"]
def f7 : Fn := ⟨1, 5, [false], b7⟩
def b8 : Ss := (.cons (.ret (.tup (.cons (.b1 .len ⟨27, 12, 27, 15⟩ (.var 0 "lot" ⟨27, 16, 27, 19⟩) ⟨27, 12, 27, 20⟩) (.cons (.var 0 "lot" ⟨27, 22, 27, 25⟩) .nil)) 0 ⟨27, 11, 27, 26⟩) ⟨27, 4, 27, 26⟩) .nil)
def n8 : List Str := ["lot"]
def p8 : List Str := ["lot"]
def f8 : Fn := ⟨1, 1, [false], b8⟩
def b9 : Ss := (.cons (.ret (.call 1 "is_between" ⟨47, 11, 47, 21⟩ (.cons (.var 0 "value" ⟨47, 22, 47, 27⟩) (.cons (.int 0 0 ⟨47, 29, 47, 30⟩) (.cons (.glI "MOST_PARTS" 40 ⟨47, 32, 47, 42⟩) .nil))) ⟨47, 11, 47, 43⟩) ⟨47, 4, 47, 43⟩) .nil)
def n9 : List Str := ["value"]
def p9 : List Str := ["value"]
def f9 : Fn := ⟨1, 1, [false], b9⟩
def b10 : Ss := (.cons (.iff (.nt (.call 9 "is_many" ⟨49, 11, 49, 18⟩ (.cons (.var 0 "many" ⟨49, 19, 49, 23⟩) .nil) ⟨49, 11, 49, 24⟩) ⟨49, 7, 49, 24⟩) (.cons (.rse "BadMany" 111 ⟨50, 14, 50, 21⟩ (.var 0 "many" ⟨50, 22, 50, 26⟩) ⟨50, 14, 50, 27⟩ ⟨50, 8, 50, 27⟩) .nil) .nil ⟨49, 4, 50, 27⟩) .nil)
def n10 : List Str := ["many"]
def p10 : List Str := ["many"]
def f10 : Fn := ⟨1, 1, [false], b10⟩
def sc5 : Scope := { kind := PySem.ScopeKind.function, names := [(".0", PySem.NameKind.local), ("lot", PySem.NameKind.local), ("is_lot", PySem.NameKind.globalImplicit), ("many", PySem.NameKind.free)], isGenerator := false, isCoroutine := false }
def b11 : Ss := (.cons (.ret (.bo true (.call 2 "is_tuple" ⟨54, 11, 54, 19⟩ (.cons (.var 0 "value" ⟨54, 20, 54, 25⟩) (.cons (.int 0 0 ⟨54, 27, 54, 28⟩) (.cons (.glI "MOST_LOTS" 400 ⟨54, 30, 54, 39⟩) .nil))) ⟨54, 11, 54, 40⟩) (.cons (.b1 .all ⟨54, 45, 54, 48⟩ (.comp (.call 4 "is_lot" ⟨54, 50, 54, 56⟩ (.cons (.var 2 "lot" ⟨54, 57, 54, 60⟩) (.cons (.var 1 "many" ⟨54, 62, 54, 66⟩) .nil)) ⟨54, 50, 54, 67⟩) (.nm 2 "lot" ⟨54, 72, 54, 75⟩) (.e (.var 0 "value" ⟨54, 79, 54, 84⟩)) none sc5 [("lot", 2)] ⟨54, 49, 54, 85⟩) ⟨54, 45, 54, 86⟩) .nil) ⟨54, 11, 54, 86⟩) ⟨54, 4, 54, 86⟩) .nil)
def n11 : List Str := ["value", "many", "lot"]
def p11 : List Str := ["value", "many"]
def f11 : Fn := ⟨2, 3, [false, false], b11⟩
def b12 : Ss := (.cons (.exp (.call 10 "check_many" ⟨56, 4, 56, 14⟩ (.cons (.var 1 "many" ⟨56, 15, 56, 19⟩) .nil) ⟨56, 4, 56, 20⟩) ⟨56, 4, 56, 20⟩) (.cons (.iff (.nt (.call 11 "are_lots" ⟨57, 11, 57, 19⟩ (.cons (.var 0 "lots" ⟨57, 20, 57, 24⟩) (.cons (.var 1 "many" ⟨57, 26, 57, 30⟩) .nil)) ⟨57, 11, 57, 31⟩) ⟨57, 7, 57, 31⟩) (.cons (.rse "BadLots" 123 ⟨58, 14, 58, 21⟩ (.var 0 "lots" ⟨58, 22, 58, 26⟩) ⟨58, 14, 58, 27⟩ ⟨58, 8, 58, 27⟩) .nil) .nil ⟨57, 4, 58, 27⟩) .nil))
def n12 : List Str := ["lots", "many"]
def p12 : List Str := ["lots", "many"]
def f12 : Fn := ⟨2, 2, [false, false], b12⟩
def sc6 : Scope := { kind := PySem.ScopeKind.function, names := [(".0", PySem.NameKind.local), ("one", PySem.NameKind.local), ("meets", PySem.NameKind.globalImplicit), ("lot", PySem.NameKind.free)], isGenerator := false, isCoroutine := false }
def sc7 : Scope := { kind := PySem.ScopeKind.function, names := [(".0", PySem.NameKind.local), ("its", PySem.NameKind.local), ("is_within", PySem.NameKind.globalImplicit), ("new", PySem.NameKind.free)], isGenerator := false, isCoroutine := false }
def b13 : Ss := (.cons (.asg 3 "kept" ⟨60, 4, 60, 8⟩ (.comp (.var 2 "one" ⟨60, 12, 60, 15⟩) (.nm 2 "one" ⟨60, 20, 60, 23⟩) (.e (.var 0 "found" ⟨60, 27, 60, 32⟩)) (some (.call 5 "meets" ⟨60, 36, 60, 41⟩ (.cons (.var 2 "one" ⟨60, 42, 60, 45⟩) (.cons (.var 1 "lot" ⟨60, 47, 60, 50⟩) .nil)) ⟨60, 36, 60, 51⟩)) sc6 [("one", 2)] ⟨60, 11, 60, 52⟩) ⟨60, 4, 60, 52⟩) (.cons (.asg 4 "more" ⟨61, 4, 61, 8⟩ (.lst .nil ⟨61, 11, 61, 13⟩) ⟨61, 4, 61, 13⟩) (.cons (.for_ (.nm 2 "one" ⟨62, 8, 62, 11⟩) (.e (.var 0 "found" ⟨62, 15, 62, 20⟩)) (.cons (.iff (.nt (.call 5 "meets" ⟨63, 15, 63, 20⟩ (.cons (.var 2 "one" ⟨63, 21, 63, 24⟩) (.cons (.var 1 "lot" ⟨63, 26, 63, 29⟩) .nil)) ⟨63, 15, 63, 30⟩) ⟨63, 11, 63, 30⟩) (.cons (.for_ (.nm 5 "part" ⟨64, 16, 64, 20⟩) (.e (.var 1 "lot" ⟨64, 24, 64, 27⟩)) (.cons (.asg 6 "new" ⟨65, 16, 65, 19⟩ (.b1 .tuple ⟨65, 22, 65, 27⟩ (.b1 .sorted ⟨65, 28, 65, 34⟩ (.tup (.star (.var 2 "one" ⟨65, 37, 65, 40⟩) ⟨65, 36, 65, 40⟩ (.cons (.var 5 "part" ⟨65, 42, 65, 46⟩) .nil)) 0 ⟨65, 35, 65, 47⟩) ⟨65, 28, 65, 48⟩) ⟨65, 22, 65, 49⟩) ⟨65, 16, 65, 49⟩) (.cons (.iff (.nt (.b1 .any ⟨66, 23, 66, 26⟩ (.comp (.call 6 "is_within" ⟨66, 28, 66, 37⟩ (.cons (.var 7 "its" ⟨66, 38, 66, 41⟩) (.cons (.var 6 "new" ⟨66, 43, 66, 46⟩) .nil)) ⟨66, 28, 66, 47⟩) (.nm 7 "its" ⟨66, 52, 66, 55⟩) (.e (.var 3 "kept" ⟨66, 59, 66, 63⟩)) none sc7 [("its", 7)] ⟨66, 27, 66, 64⟩) ⟨66, 23, 66, 65⟩) ⟨66, 19, 66, 65⟩) (.cons (.exp (.app 4 "more" ⟨67, 20, 67, 24⟩ ⟨67, 20, 67, 31⟩ (.var 6 "new" ⟨67, 32, 67, 35⟩) ⟨67, 20, 67, 36⟩) ⟨67, 20, 67, 36⟩) .nil) .nil ⟨66, 16, 67, 36⟩) .nil)) ⟨64, 12, 67, 36⟩) .nil) .nil ⟨63, 8, 67, 36⟩) .nil) ⟨62, 4, 67, 36⟩) (.cons (.ret (.lst (.star (.var 3 "kept" ⟨68, 13, 68, 17⟩) ⟨68, 12, 68, 17⟩ (.star (.var 4 "more" ⟨68, 20, 68, 24⟩) ⟨68, 19, 68, 24⟩ .nil)) ⟨68, 11, 68, 25⟩) ⟨68, 4, 68, 25⟩) .nil))))
def n13 : List Str := ["found", "lot", "one", "kept", "more", "part", "new", "its"]
def p13 : List Str := ["found", "lot"]
def f13 : Fn := ⟨2, 8, [false, false], b13⟩
def sc8 : Scope := { kind := PySem.ScopeKind.function, names := [("one", PySem.NameKind.local), ("len", PySem.NameKind.globalImplicit)], isGenerator := false, isCoroutine := false }
def b14 : Ss := (.cons (.asg 1 "found" ⟨70, 4, 70, 9⟩ (.lst (.cons (.tup .nil 0 ⟨70, 13, 70, 15⟩) .nil) ⟨70, 12, 70, 16⟩) ⟨70, 4, 70, 16⟩) (.cons (.for_ (.nm 2 "lot" ⟨71, 8, 71, 11⟩) (.e (.call 7 "least_of" ⟨71, 15, 71, 23⟩ (.cons (.var 0 "lots" ⟨71, 24, 71, 28⟩) .nil) ⟨71, 15, 71, 29⟩)) (.cons (.asg 1 "found" ⟨72, 8, 72, 13⟩ (.call 13 "crossed_by" ⟨72, 16, 72, 26⟩ (.cons (.var 1 "found" ⟨72, 27, 72, 32⟩) (.cons (.var 2 "lot" ⟨72, 34, 72, 37⟩) .nil)) ⟨72, 16, 72, 38⟩) ⟨72, 8, 72, 38⟩) (.cons (.iff (.cmp PySem.CmpOp.Gt (.b1 .len ⟨73, 11, 73, 14⟩ (.var 1 "found" ⟨73, 15, 73, 20⟩) ⟨73, 11, 73, 21⟩) (.glI "MOST_LOTS" 400 ⟨73, 24, 73, 33⟩) ⟨73, 11, 73, 33⟩) (.cons (.rse "TooMany" 147 ⟨74, 18, 74, 25⟩ (.glI "MOST_LOTS" 400 ⟨74, 26, 74, 35⟩) ⟨74, 18, 74, 36⟩ ⟨74, 12, 74, 36⟩) .nil) .nil ⟨73, 8, 74, 36⟩) .nil)) ⟨71, 4, 74, 36⟩) (.cons (.ret (.slam ⟨75, 11, 75, 17⟩ (.var 1 "found" ⟨75, 18, 75, 23⟩) ⟨75, 25, 75, 56⟩ 3 "one" ⟨75, 36, 75, 39⟩ (.tup (.cons (.b1 .len ⟨75, 42, 75, 45⟩ (.var 3 "one" ⟨75, 46, 75, 49⟩) ⟨75, 42, 75, 50⟩) (.cons (.var 3 "one" ⟨75, 52, 75, 55⟩) .nil)) 0 ⟨75, 41, 75, 56⟩) sc8 ⟨75, 29, 75, 56⟩ ⟨75, 11, 75, 57⟩) ⟨75, 4, 75, 57⟩) .nil)))
def n14 : List Str := ["lots", "found", "lot", "one"]
def p14 : List Str := ["lots"]
def f14 : Fn := ⟨1, 4, [false], b14⟩
def sc9 : Scope := { kind := PySem.ScopeKind.function, names := [(".0", PySem.NameKind.local), ("other", PySem.NameKind.local), ("one", PySem.NameKind.free), ("part", PySem.NameKind.free)], isGenerator := false, isCoroutine := false }
def sc10 : Scope := { kind := PySem.ScopeKind.function, names := [(".0", PySem.NameKind.local), ("one", PySem.NameKind.cell), ("any", PySem.NameKind.globalImplicit), ("lot", PySem.NameKind.free), ("part", PySem.NameKind.free)], isGenerator := false, isCoroutine := false }
def b15 : Ss := (.cons (.ret (.b1 .any ⟨77, 11, 77, 14⟩ (.comp (.bo true (.cmp PySem.CmpOp.In (.var 1 "part" ⟨77, 16, 77, 20⟩) (.var 3 "one" ⟨77, 24, 77, 27⟩) ⟨77, 16, 77, 27⟩) (.cons (.nt (.b1 .any ⟨77, 37, 77, 40⟩ (.comp (.cmp PySem.CmpOp.In (.var 4 "other" ⟨77, 42, 77, 47⟩) (.var 3 "one" ⟨77, 51, 77, 54⟩) ⟨77, 42, 77, 54⟩) (.nm 4 "other" ⟨77, 59, 77, 64⟩) (.e (.var 0 "lot" ⟨77, 68, 77, 71⟩)) (some (.cmp PySem.CmpOp.NotEq (.var 4 "other" ⟨77, 75, 77, 80⟩) (.var 1 "part" ⟨77, 84, 77, 88⟩) ⟨77, 75, 77, 88⟩)) sc9 [("other", 4)] ⟨77, 41, 77, 89⟩) ⟨77, 37, 77, 90⟩) ⟨77, 33, 77, 90⟩) .nil) ⟨77, 16, 77, 91⟩) (.nm 3 "one" ⟨77, 96, 77, 99⟩) (.e (.var 2 "lots" ⟨77, 103, 77, 107⟩)) none sc10 [("one", 3)] ⟨77, 15, 77, 108⟩) ⟨77, 11, 77, 109⟩) ⟨77, 4, 77, 109⟩) .nil)
def n15 : List Str := ["lot", "part", "lots", "one", "other"]
def p15 : List Str := ["lot", "part", "lots"]
def f15 : Fn := ⟨3, 5, [false, false, false], b15⟩
def b16 : Ss := (.cons (.exp (.call 12 "check_lots" ⟨79, 4, 79, 14⟩ (.cons (.var 0 "lots" ⟨79, 15, 79, 19⟩) (.cons (.var 1 "many" ⟨79, 21, 79, 25⟩) .nil)) ⟨79, 4, 79, 26⟩) ⟨79, 4, 79, 26⟩) (.cons (.ret (.b1 .tuple ⟨80, 11, 80, 16⟩ (.call 14 "crossing_of" ⟨80, 17, 80, 28⟩ (.cons (.b1 .list ⟨80, 29, 80, 33⟩ (.var 0 "lots" ⟨80, 34, 80, 38⟩) ⟨80, 29, 80, 39⟩) .nil) ⟨80, 17, 80, 40⟩) ⟨80, 11, 80, 41⟩) ⟨80, 4, 80, 41⟩) .nil))
def n16 : List Str := ["lots", "many"]
def p16 : List Str := ["lots", "many"]
def f16 : Fn := ⟨2, 2, [false, false], b16⟩
def sc11 : Scope := { kind := PySem.ScopeKind.function, names := [(".0", PySem.NameKind.local), ("one", PySem.NameKind.local), ("meets", PySem.NameKind.globalImplicit), ("lot", PySem.NameKind.free)], isGenerator := false, isCoroutine := false }
def b17 : Ss := (.cons (.exp (.call 12 "check_lots" ⟨82, 4, 82, 14⟩ (.cons (.var 0 "lots" ⟨82, 15, 82, 19⟩) (.cons (.var 1 "many" ⟨82, 21, 82, 25⟩) .nil)) ⟨82, 4, 82, 26⟩) ⟨82, 4, 82, 26⟩) (.cons (.iff (.nt (.call 4 "is_lot" ⟨83, 11, 83, 17⟩ (.cons (.var 2 "lot" ⟨83, 18, 83, 21⟩) (.cons (.var 1 "many" ⟨83, 23, 83, 27⟩) .nil)) ⟨83, 11, 83, 28⟩) ⟨83, 7, 83, 28⟩) (.cons (.rse "BadLot" 99 ⟨84, 14, 84, 20⟩ (.var 2 "lot" ⟨84, 21, 84, 24⟩) ⟨84, 14, 84, 25⟩ ⟨84, 8, 84, 25⟩) .nil) .nil ⟨83, 4, 84, 25⟩) (.cons (.ret (.b1 .all ⟨85, 11, 85, 14⟩ (.comp (.call 5 "meets" ⟨85, 16, 85, 21⟩ (.cons (.var 2 "lot" ⟨85, 22, 85, 25⟩) (.cons (.var 3 "one" ⟨85, 27, 85, 30⟩) .nil)) ⟨85, 16, 85, 31⟩) (.nm 3 "one" ⟨85, 36, 85, 39⟩) (.e (.var 0 "lots" ⟨85, 43, 85, 47⟩)) none sc11 [("one", 3)] ⟨85, 15, 85, 48⟩) ⟨85, 11, 85, 49⟩) ⟨85, 4, 85, 49⟩) .nil)))
def n17 : List Str := ["lots", "many", "lot", "one"]
def p17 : List Str := ["lots", "many", "lot"]
def f17 : Fn := ⟨3, 4, [false, false, false], b17⟩
def sc12 : Scope := { kind := PySem.ScopeKind.function, names := [(".0", PySem.NameKind.local), ("part", PySem.NameKind.local), ("is_alone_in", PySem.NameKind.globalImplicit), ("lot", PySem.NameKind.free), ("lots", PySem.NameKind.free)], isGenerator := false, isCoroutine := false }
def b18 : Ss := (.cons (.ret (.bo true (.call 17 "does_cross" ⟨87, 11, 87, 21⟩ (.cons (.var 0 "lots" ⟨87, 22, 87, 26⟩) (.cons (.var 1 "many" ⟨87, 28, 87, 32⟩) (.cons (.var 2 "lot" ⟨87, 34, 87, 37⟩) .nil))) ⟨87, 11, 87, 38⟩) (.cons (.b1 .all ⟨87, 43, 87, 46⟩ (.comp (.call 15 "is_alone_in" ⟨87, 48, 87, 59⟩ (.cons (.var 2 "lot" ⟨87, 60, 87, 63⟩) (.cons (.var 3 "part" ⟨87, 65, 87, 69⟩) (.cons (.var 0 "lots" ⟨87, 71, 87, 75⟩) .nil))) ⟨87, 48, 87, 76⟩) (.nm 3 "part" ⟨87, 81, 87, 85⟩) (.e (.var 2 "lot" ⟨87, 89, 87, 92⟩)) none sc12 [("part", 3)] ⟨87, 47, 87, 93⟩) ⟨87, 43, 87, 94⟩) .nil) ⟨87, 11, 87, 94⟩) ⟨87, 4, 87, 94⟩) .nil)
def n18 : List Str := ["lots", "many", "lot", "part"]
def p18 : List Str := ["lots", "many", "lot"]
def f18 : Fn := ⟨3, 4, [false, false, false], b18⟩
def b19 : Ss := (.cons (.asg 2 "found" ⟨89, 4, 89, 9⟩ (.call 16 "crossing" ⟨89, 12, 89, 20⟩ (.cons (.var 0 "lots" ⟨89, 21, 89, 25⟩) (.cons (.var 1 "many" ⟨89, 27, 89, 31⟩) .nil)) ⟨89, 12, 89, 32⟩) ⟨89, 4, 89, 32⟩) (.cons (.ret (.ife (.cmp PySem.CmpOp.NotEq (.var 2 "found" ⟨90, 28, 90, 33⟩) (.tup .nil 0 ⟨90, 37, 90, 39⟩) ⟨90, 28, 90, 39⟩) (.b1 .len ⟨90, 11, 90, 14⟩ (.idx (.var 2 "found" ⟨90, 15, 90, 20⟩) (.int 0 0 ⟨90, 21, 90, 22⟩) ⟨90, 15, 90, 23⟩) ⟨90, 11, 90, 24⟩) (.non 0 ⟨90, 45, 90, 49⟩) ⟨90, 11, 90, 49⟩) ⟨90, 4, 90, 49⟩) .nil))
def n19 : List Str := ["lots", "many", "found"]
def p19 : List Str := ["lots", "many"]
def f19 : Fn := ⟨2, 3, [false, false], b19⟩
def sc13 : Scope := { kind := PySem.ScopeKind.function, names := [(".0", PySem.NameKind.local), ("its", PySem.NameKind.local), ("meets", PySem.NameKind.globalImplicit), ("lot", PySem.NameKind.free)], isGenerator := false, isCoroutine := false }
def sc14 : Scope := { kind := PySem.ScopeKind.function, names := [(".0", PySem.NameKind.local), ("one", PySem.NameKind.local), ("any", PySem.NameKind.globalImplicit), ("lot", PySem.NameKind.free)], isGenerator := false, isCoroutine := false }
def sc15 : Scope := { kind := PySem.ScopeKind.function, names := [(".0", PySem.NameKind.local), ("one", PySem.NameKind.local), ("len", PySem.NameKind.globalImplicit)], isGenerator := false, isCoroutine := false }
def b20 : Ss := (.cons (.exp (.call 12 "check_lots" ⟨92, 4, 92, 14⟩ (.cons (.var 0 "lots" ⟨92, 15, 92, 19⟩) (.cons (.var 1 "many" ⟨92, 21, 92, 25⟩) .nil)) ⟨92, 4, 92, 26⟩) ⟨92, 4, 92, 26⟩) (.cons (.asg 2 "some" ⟨93, 4, 93, 8⟩ (.call 7 "least_of" ⟨93, 11, 93, 19⟩ (.cons (.b1 .list ⟨93, 20, 93, 24⟩ (.var 0 "lots" ⟨93, 25, 93, 29⟩) ⟨93, 20, 93, 30⟩) .nil) ⟨93, 11, 93, 31⟩) ⟨93, 4, 93, 31⟩) (.cons (.iff (.cmp PySem.CmpOp.Gt (.b1 .len ⟨94, 7, 94, 10⟩ (.var 2 "some" ⟨94, 11, 94, 15⟩) ⟨94, 7, 94, 16⟩) (.int 16 0 ⟨94, 19, 94, 21⟩) ⟨94, 7, 94, 21⟩) (.cons (.rse "TooMany" 147 ⟨95, 14, 95, 21⟩ (.int 16 0 ⟨95, 22, 95, 24⟩) ⟨95, 14, 95, 25⟩ ⟨95, 8, 95, 25⟩) .nil) .nil ⟨94, 4, 95, 25⟩) (.cons (.asg 3 "found" ⟨96, 4, 96, 9⟩ (.lst (.cons (.lst .nil ⟨96, 13, 96, 15⟩) .nil) ⟨96, 12, 96, 16⟩) ⟨96, 4, 96, 16⟩) (.cons (.for_ (.nm 4 "lot" ⟨97, 8, 97, 11⟩) (.e (.var 2 "some" ⟨97, 15, 97, 19⟩)) (.cons (.asg 3 "found" ⟨98, 8, 98, 13⟩ (.bin PySem.Operator.Add (.var 3 "found" ⟨98, 16, 98, 21⟩) (.comp (.lst (.star (.var 5 "one" ⟨98, 27, 98, 30⟩) ⟨98, 26, 98, 30⟩ (.cons (.var 4 "lot" ⟨98, 32, 98, 35⟩) .nil)) ⟨98, 25, 98, 36⟩) (.nm 5 "one" ⟨98, 41, 98, 44⟩) (.e (.var 3 "found" ⟨98, 48, 98, 53⟩)) (some (.nt (.b1 .any ⟨98, 61, 98, 64⟩ (.comp (.call 5 "meets" ⟨98, 66, 98, 71⟩ (.cons (.var 4 "lot" ⟨98, 72, 98, 75⟩) (.cons (.var 6 "its" ⟨98, 77, 98, 80⟩) .nil)) ⟨98, 66, 98, 81⟩) (.nm 6 "its" ⟨98, 86, 98, 89⟩) (.e (.var 5 "one" ⟨98, 93, 98, 96⟩)) none sc13 [("its", 6)] ⟨98, 65, 98, 97⟩) ⟨98, 61, 98, 98⟩) ⟨98, 57, 98, 98⟩)) sc14 [("one", 5)] ⟨98, 24, 98, 99⟩) ⟨98, 16, 98, 99⟩) ⟨98, 8, 98, 99⟩) .nil) ⟨97, 4, 98, 99⟩) (.cons (.ret (.b1 .max ⟨99, 11, 99, 14⟩ (.comp (.b1 .len ⟨99, 16, 99, 19⟩ (.var 5 "one" ⟨99, 20, 99, 23⟩) ⟨99, 16, 99, 24⟩) (.nm 5 "one" ⟨99, 29, 99, 32⟩) (.e (.var 3 "found" ⟨99, 36, 99, 41⟩)) none sc15 [("one", 5)] ⟨99, 15, 99, 42⟩) ⟨99, 11, 99, 43⟩) ⟨99, 4, 99, 43⟩) .nil))))))
def n20 : List Str := ["lots", "many", "some", "found", "lot", "one", "its"]
def p20 : List Str := ["lots", "many"]
def f20 : Fn := ⟨2, 7, [false, false], b20⟩
def sc16 : Scope := { kind := PySem.ScopeKind.function, names := [(".0", PySem.NameKind.local), ("one", PySem.NameKind.local), ("len", PySem.NameKind.globalImplicit), ("number", PySem.NameKind.free)], isGenerator := false, isCoroutine := false }
def b21 : Ss := (.cons (.exp (.call 12 "check_lots" ⟨101, 4, 101, 14⟩ (.cons (.var 0 "lots" ⟨101, 15, 101, 19⟩) (.cons (.var 1 "many" ⟨101, 21, 101, 25⟩) .nil)) ⟨101, 4, 101, 26⟩) ⟨101, 4, 101, 26⟩) (.cons (.iff (.nt (.call 1 "is_between" ⟨102, 11, 102, 21⟩ (.cons (.var 2 "number" ⟨102, 22, 102, 28⟩) (.cons (.int 0 0 ⟨102, 30, 102, 31⟩) (.cons (.var 1 "many" ⟨102, 33, 102, 37⟩) .nil))) ⟨102, 11, 102, 38⟩) ⟨102, 7, 102, 38⟩) (.cons (.rse "BadNumber" 135 ⟨103, 14, 103, 23⟩ (.var 2 "number" ⟨103, 24, 103, 30⟩) ⟨103, 14, 103, 31⟩ ⟨103, 8, 103, 31⟩) .nil) .nil ⟨102, 4, 103, 31⟩) (.cons (.ret (.b1 .tuple ⟨104, 11, 104, 16⟩ (.comp (.var 3 "one" ⟨104, 18, 104, 21⟩) (.nm 3 "one" ⟨104, 26, 104, 29⟩) (.e (.call 14 "crossing_of" ⟨104, 33, 104, 44⟩ (.cons (.b1 .list ⟨104, 45, 104, 49⟩ (.var 0 "lots" ⟨104, 50, 104, 54⟩) ⟨104, 45, 104, 55⟩) .nil) ⟨104, 33, 104, 56⟩)) (some (.cmp PySem.CmpOp.LtE (.b1 .len ⟨104, 60, 104, 63⟩ (.var 3 "one" ⟨104, 64, 104, 67⟩) ⟨104, 60, 104, 68⟩) (.var 2 "number" ⟨104, 72, 104, 78⟩) ⟨104, 60, 104, 78⟩)) sc16 [("one", 3)] ⟨104, 17, 104, 79⟩) ⟨104, 11, 104, 80⟩) ⟨104, 4, 104, 80⟩) .nil)))
def n21 : List Str := ["lots", "many", "number", "one"]
def p21 : List Str := ["lots", "many", "number"]
def f21 : Fn := ⟨3, 4, [false, false, false], b21⟩
def b22 : Ss := (.cons (.asg 2 "cell" ⟨107, 4, 107, 8⟩ (.ife (.cmp PySem.CmpOp.Lt (.var 1 "place" ⟨107, 28, 107, 33⟩) (.b1 .len ⟨107, 36, 107, 39⟩ (.var 0 "script" ⟨107, 40, 107, 46⟩) ⟨107, 36, 107, 47⟩) ⟨107, 28, 107, 47⟩) (.idx (.var 0 "script" ⟨107, 11, 107, 17⟩) (.var 1 "place" ⟨107, 18, 107, 23⟩) ⟨107, 11, 107, 24⟩) (.bin PySem.Operator.Add (.bin PySem.Operator.Add (.bin PySem.Operator.Mod (.b1 .sum ⟨107, 53, 107, 56⟩ (.shi (.var 0 "script" ⟨107, 57, 107, 63⟩) (.int 1 0 ⟨107, 65, 107, 66⟩) ⟨107, 64, 107, 66⟩ ⟨107, 57, 107, 67⟩) ⟨107, 53, 107, 68⟩) (.int 1000003 0 ⟨107, 71, 107, 78⟩) ⟨107, 53, 107, 78⟩) (.bin PySem.Operator.Mult (.int 7408 0 ⟨107, 81, 107, 85⟩) (.var 1 "place" ⟨107, 88, 107, 93⟩) ⟨107, 81, 107, 93⟩) ⟨107, 53, 107, 93⟩) (.int 26826 0 ⟨107, 96, 107, 101⟩) ⟨107, 53, 107, 101⟩) ⟨107, 11, 107, 101⟩) ⟨107, 4, 107, 101⟩) (.cons (.asg 3 "own" ⟨108, 4, 108, 7⟩ (.bin PySem.Operator.Mult (.bin PySem.Operator.Mod (.b1 .int ⟨108, 10, 108, 13⟩ (.b1 .abs ⟨108, 14, 108, 17⟩ (.var 2 "cell" ⟨108, 18, 108, 22⟩) ⟨108, 14, 108, 23⟩) ⟨108, 10, 108, 24⟩) (.bin PySem.Operator.Pow (.bin PySem.Operator.Pow (.int 10 0 ⟨108, 28, 108, 30⟩) (.int 60 0 ⟨108, 34, 108, 36⟩) ⟨108, 28, 108, 36⟩) (.int 5 0 ⟨108, 41, 108, 42⟩) ⟨108, 27, 108, 42⟩) ⟨108, 10, 108, 42⟩) (.b1 .int ⟨108, 45, 108, 48⟩ (.cmp PySem.CmpOp.GtE (.b1 .abs ⟨108, 49, 108, 52⟩ (.var 2 "cell" ⟨108, 53, 108, 57⟩) ⟨108, 49, 108, 58⟩) (.bin PySem.Operator.Pow (.int 10 0 ⟨108, 62, 108, 64⟩) (.int 18 0 ⟨108, 68, 108, 70⟩) ⟨108, 62, 108, 70⟩) ⟨108, 49, 108, 70⟩) ⟨108, 45, 108, 71⟩) ⟨108, 10, 108, 71⟩) ⟨108, 4, 108, 71⟩) (.cons (.asg 4 "small" ⟨109, 4, 109, 9⟩ (.bin PySem.Operator.Mod (.b1 .int ⟨109, 12, 109, 15⟩ (.var 2 "cell" ⟨109, 16, 109, 20⟩) ⟨109, 12, 109, 21⟩) (.int 2305843009213693951 0 ⟨109, 24, 109, 43⟩) ⟨109, 12, 109, 43⟩) ⟨109, 4, 109, 43⟩) (.cons (.ret (.lst (.cons (.var 3 "own" ⟨110, 12, 110, 15⟩) (.cons (.bin PySem.Operator.Mod (.b1 .int ⟨110, 17, 110, 20⟩ (.bin PySem.Operator.Add (.bin PySem.Operator.Add (.bin PySem.Operator.Mult (.var 4 "small" ⟨110, 21, 110, 26⟩) (.int 123904 0 ⟨110, 29, 110, 35⟩) ⟨110, 21, 110, 35⟩) (.bin PySem.Operator.Mult (.bin PySem.Operator.Mult (.int 8762 0 ⟨110, 38, 110, 42⟩) (.var 1 "place" ⟨110, 45, 110, 50⟩) ⟨110, 38, 110, 50⟩) (.var 1 "place" ⟨110, 53, 110, 58⟩) ⟨110, 38, 110, 58⟩) ⟨110, 21, 110, 58⟩) (.int 178 0 ⟨110, 61, 110, 64⟩) ⟨110, 21, 110, 64⟩) ⟨110, 17, 110, 65⟩) (.int 2305843009213693921 0 ⟨110, 68, 110, 87⟩) ⟨110, 17, 110, 87⟩) (.cons (.int 0 0 ⟨110, 89, 110, 90⟩) .nil))) ⟨110, 11, 110, 91⟩) ⟨110, 4, 110, 91⟩) .nil))))
def n22 : List Str := ["script", "place", "cell", "own", "small"]
def p22 : List Str := ["script", "place"]
def f22 : Fn := ⟨2, 5, [false, false], b22⟩
def b23 : Ss := (.cons (.iff (.cmp PySem.CmpOp.Gt (.idx (.var 0 "pot" ⟨112, 7, 112, 10⟩) (.int 0 0 ⟨112, 11, 112, 12⟩) ⟨112, 7, 112, 13⟩) (.int 0 0 ⟨112, 16, 112, 17⟩) ⟨112, 7, 112, 17⟩) (.cons (.asg 2 "digit" ⟨113, 8, 113, 13⟩ (.bin PySem.Operator.Mod (.b1 .int ⟨113, 16, 113, 19⟩ (.idx (.var 0 "pot" ⟨113, 20, 113, 23⟩) (.int 0 0 ⟨113, 24, 113, 25⟩) ⟨113, 20, 113, 26⟩) ⟨113, 16, 113, 27⟩) (.var 1 "upto" ⟨113, 30, 113, 34⟩) ⟨113, 16, 113, 34⟩) ⟨113, 8, 113, 34⟩) (.cons (.six 0 "pot" ⟨114, 8, 114, 11⟩ (.int 0 0 ⟨114, 12, 114, 13⟩) ⟨114, 8, 114, 14⟩ (.bin PySem.Operator.FloorDiv (.idx (.var 0 "pot" ⟨114, 17, 114, 20⟩) (.int 0 0 ⟨114, 21, 114, 22⟩) ⟨114, 17, 114, 23⟩) (.var 1 "upto" ⟨114, 27, 114, 31⟩) ⟨114, 17, 114, 31⟩) ⟨114, 8, 114, 31⟩) (.cons (.ret (.var 2 "digit" ⟨115, 15, 115, 20⟩) ⟨115, 8, 115, 20⟩) .nil))) .nil ⟨112, 4, 115, 20⟩) (.cons (.six 0 "pot" ⟨116, 4, 116, 7⟩ (.int 2 0 ⟨116, 8, 116, 9⟩) ⟨116, 4, 116, 10⟩ (.bin PySem.Operator.Add (.idx (.var 0 "pot" ⟨116, 13, 116, 16⟩) (.int 2 0 ⟨116, 17, 116, 18⟩) ⟨116, 13, 116, 19⟩) (.int 1 0 ⟨116, 22, 116, 23⟩) ⟨116, 13, 116, 23⟩) ⟨116, 4, 116, 23⟩) (.cons (.asg 3 "prime" ⟨117, 4, 117, 9⟩ (.idx (.lst (.cons (.int 2147483647 0 ⟨117, 13, 117, 23⟩) (.cons (.int 2147483629 0 ⟨117, 25, 117, 35⟩) (.cons (.int 2147483587 0 ⟨117, 37, 117, 47⟩) (.cons (.int 2147483579 0 ⟨117, 49, 117, 59⟩) (.cons (.int 2147483563 0 ⟨117, 61, 117, 71⟩) .nil))))) ⟨117, 12, 117, 72⟩) (.bin PySem.Operator.Mod (.b1 .int ⟨117, 73, 117, 76⟩ (.idx (.var 0 "pot" ⟨117, 77, 117, 80⟩) (.int 2 0 ⟨117, 81, 117, 82⟩) ⟨117, 77, 117, 83⟩) ⟨117, 73, 117, 84⟩) (.int 5 0 ⟨117, 87, 117, 88⟩) ⟨117, 73, 117, 88⟩) ⟨117, 12, 117, 89⟩) ⟨117, 4, 117, 89⟩) (.cons (.asg 4 "blend" ⟨118, 4, 118, 9⟩ (.bin PySem.Operator.Mod (.b1 .int ⟨118, 12, 118, 15⟩ (.bin PySem.Operator.Pow (.b1 .int ⟨118, 16, 118, 19⟩ (.bin PySem.Operator.Add (.bin PySem.Operator.Add (.idx (.var 0 "pot" ⟨118, 20, 118, 23⟩) (.int 1 0 ⟨118, 24, 118, 25⟩) ⟨118, 20, 118, 26⟩) (.bin PySem.Operator.Mult (.bin PySem.Operator.Mult (.int 98554 0 ⟨118, 29, 118, 34⟩) (.idx (.var 0 "pot" ⟨118, 37, 118, 40⟩) (.int 2 0 ⟨118, 41, 118, 42⟩) ⟨118, 37, 118, 43⟩) ⟨118, 29, 118, 43⟩) (.idx (.var 0 "pot" ⟨118, 46, 118, 49⟩) (.int 2 0 ⟨118, 50, 118, 51⟩) ⟨118, 46, 118, 52⟩) ⟨118, 29, 118, 52⟩) ⟨118, 20, 118, 52⟩) (.int 80 0 ⟨118, 55, 118, 57⟩) ⟨118, 20, 118, 57⟩) ⟨118, 16, 118, 58⟩) (.int 3 0 ⟨118, 62, 118, 63⟩) ⟨118, 16, 118, 63⟩) ⟨118, 12, 118, 64⟩) (.var 3 "prime" ⟨118, 67, 118, 72⟩) ⟨118, 12, 118, 72⟩) ⟨118, 4, 118, 72⟩) (.cons (.asg 4 "blend" ⟨119, 4, 119, 9⟩ (.bin PySem.Operator.Mod (.b1 .int ⟨119, 12, 119, 15⟩ (.bin PySem.Operator.Mult (.var 4 "blend" ⟨119, 16, 119, 21⟩) (.bin PySem.Operator.Add (.bin PySem.Operator.Mod (.b1 .int ⟨119, 25, 119, 28⟩ (.var 4 "blend" ⟨119, 29, 119, 34⟩) ⟨119, 25, 119, 35⟩) (.int 10029 0 ⟨119, 38, 119, 43⟩) ⟨119, 25, 119, 43⟩) (.bin PySem.Operator.Mult (.int 114 0 ⟨119, 46, 119, 49⟩) (.idx (.var 0 "pot" ⟨119, 52, 119, 55⟩) (.int 2 0 ⟨119, 56, 119, 57⟩) ⟨119, 52, 119, 58⟩) ⟨119, 46, 119, 58⟩) ⟨119, 25, 119, 58⟩) ⟨119, 16, 119, 59⟩) ⟨119, 12, 119, 60⟩) (.int 2305843009213693907 0 ⟨119, 63, 119, 82⟩) ⟨119, 12, 119, 82⟩) ⟨119, 4, 119, 82⟩) (.cons (.ret (.bin PySem.Operator.Mod (.b1 .int ⟨120, 11, 120, 14⟩ (.bin PySem.Operator.FloorDiv (.var 4 "blend" ⟨120, 15, 120, 20⟩) (.int 149 0 ⟨120, 24, 120, 27⟩) ⟨120, 15, 120, 27⟩) ⟨120, 11, 120, 28⟩) (.var 1 "upto" ⟨120, 31, 120, 35⟩) ⟨120, 11, 120, 35⟩) ⟨120, 4, 120, 35⟩) .nil))))))
def n23 : List Str := ["pot", "upto", "digit", "prime", "blend"]
def p23 : List Str := ["pot", "upto"]
def f23 : Fn := ⟨2, 5, [true, false], b23⟩
def b24 : Ss := (.cons (.ret (.idx (.var 1 "some" ⟨122, 11, 122, 15⟩) (.call 23 "_law_take" ⟨122, 16, 122, 25⟩ (.cons (.var 0 "pot" ⟨122, 26, 122, 29⟩) (.cons (.b1 .len ⟨122, 31, 122, 34⟩ (.var 1 "some" ⟨122, 35, 122, 39⟩) ⟨122, 31, 122, 40⟩) .nil)) ⟨122, 16, 122, 41⟩) ⟨122, 11, 122, 42⟩) ⟨122, 4, 122, 42⟩) .nil)
def n24 : List Str := ["pot", "some"]
def p24 : List Str := ["pot", "some"]
def f24 : Fn := ⟨2, 2, [true, false], b24⟩
def b25 : Ss := (.cons (.ret (.lrng ⟨124, 11, 124, 15⟩ ⟨124, 16, 124, 21⟩ (.b2 .max ⟨124, 22, 124, 25⟩ (.int 1 0 ⟨124, 26, 124, 27⟩) (.b2 .min ⟨124, 29, 124, 32⟩ (.var 1 "most" ⟨124, 33, 124, 37⟩) (.b1 .len ⟨124, 39, 124, 42⟩ (.var 0 "script" ⟨124, 43, 124, 49⟩) ⟨124, 39, 124, 50⟩) ⟨124, 29, 124, 51⟩) ⟨124, 22, 124, 52⟩) ⟨124, 16, 124, 53⟩ ⟨124, 11, 124, 54⟩) ⟨124, 4, 124, 54⟩) .nil)
def n25 : List Str := ["script", "most"]
def p25 : List Str := ["script", "most"]
def f25 : Fn := ⟨2, 2, [false, false], b25⟩
def sc17 : Scope := { kind := PySem.ScopeKind.function, names := [(".0", PySem.NameKind.local), ("part", PySem.NameKind.local), ("_law_take", PySem.NameKind.globalImplicit), ("pot", PySem.NameKind.free)], isGenerator := false, isCoroutine := false }
def b26 : Ss := (.cons (.ret (.b1 .tuple ⟨133, 11, 133, 16⟩ (.comp (.var 2 "part" ⟨133, 18, 133, 22⟩) (.nm 2 "part" ⟨133, 27, 133, 31⟩) (.rng ⟨133, 35, 133, 40⟩ (.var 1 "many" ⟨133, 41, 133, 45⟩) ⟨133, 35, 133, 46⟩) (some (.cmp PySem.CmpOp.Eq (.call 23 "_law_take" ⟨133, 50, 133, 59⟩ (.cons (.var 0 "pot" ⟨133, 60, 133, 63⟩) (.cons (.int 2 0 ⟨133, 65, 133, 66⟩) .nil)) ⟨133, 50, 133, 67⟩) (.int 0 0 ⟨133, 71, 133, 72⟩) ⟨133, 50, 133, 72⟩)) sc17 [("part", 2)] ⟨133, 17, 133, 73⟩) ⟨133, 11, 133, 74⟩) ⟨133, 4, 133, 74⟩) .nil)
def n26 : List Str := ["pot", "many", "part"]
def p26 : List Str := ["pot", "many"]
def f26 : Fn := ⟨2, 3, [true, false], b26⟩
def sc18 : Scope := { kind := PySem.ScopeKind.function, names := [(".0", PySem.NameKind.local), ("lot", PySem.NameKind.local), ("part", PySem.NameKind.free)], isGenerator := false, isCoroutine := false }
def sc19 : Scope := { kind := PySem.ScopeKind.function, names := [("lot", PySem.NameKind.local), ("len", PySem.NameKind.globalImplicit)], isGenerator := false, isCoroutine := false }
def b27 : Ss := (.cons (.asg 1 "found" ⟨135, 4, 135, 9⟩ (.lst (.cons (.tup .nil 0 ⟨135, 13, 135, 15⟩) .nil) ⟨135, 12, 135, 16⟩) ⟨135, 4, 135, 16⟩) (.cons (.for_ (.nm 2 "part" ⟨136, 8, 136, 12⟩) (.rng ⟨136, 16, 136, 21⟩ (.var 0 "many" ⟨136, 22, 136, 26⟩) ⟨136, 16, 136, 27⟩) (.cons (.asg 1 "found" ⟨137, 8, 137, 13⟩ (.bin PySem.Operator.Add (.var 1 "found" ⟨137, 16, 137, 21⟩) (.comp (.bin PySem.Operator.Add (.var 3 "lot" ⟨137, 25, 137, 28⟩) (.tup (.cons (.var 2 "part" ⟨137, 32, 137, 36⟩) .nil) 0 ⟨137, 31, 137, 38⟩) ⟨137, 25, 137, 38⟩) (.nm 3 "lot" ⟨137, 43, 137, 46⟩) (.e (.var 1 "found" ⟨137, 50, 137, 55⟩)) none sc18 [("lot", 3)] ⟨137, 24, 137, 56⟩) ⟨137, 16, 137, 56⟩) ⟨137, 8, 137, 56⟩) .nil) ⟨136, 4, 137, 56⟩) (.cons (.ret (.slam ⟨138, 11, 138, 17⟩ (.var 1 "found" ⟨138, 18, 138, 23⟩) ⟨138, 25, 138, 56⟩ 3 "lot" ⟨138, 36, 138, 39⟩ (.tup (.cons (.b1 .len ⟨138, 42, 138, 45⟩ (.var 3 "lot" ⟨138, 46, 138, 49⟩) ⟨138, 42, 138, 50⟩) (.cons (.var 3 "lot" ⟨138, 52, 138, 55⟩) .nil)) 0 ⟨138, 41, 138, 56⟩) sc19 ⟨138, 29, 138, 56⟩ ⟨138, 11, 138, 57⟩) ⟨138, 4, 138, 57⟩) .nil)))
def n27 : List Str := ["many", "found", "part", "lot"]
def p27 : List Str := ["many"]
def f27 : Fn := ⟨1, 4, [false], b27⟩
def sc20 : Scope := { kind := PySem.ScopeKind.function, names := [(".0", PySem.NameKind.local), ("part", PySem.NameKind.local), ("other", PySem.NameKind.free)], isGenerator := false, isCoroutine := false }
def b28 : Ss := (.cons (.ret (.b1 .all ⟨140, 11, 140, 14⟩ (.comp (.cmp PySem.CmpOp.In (.var 2 "part" ⟨140, 16, 140, 20⟩) (.var 1 "other" ⟨140, 24, 140, 29⟩) ⟨140, 16, 140, 29⟩) (.nm 2 "part" ⟨140, 34, 140, 38⟩) (.e (.var 0 "one" ⟨140, 42, 140, 45⟩)) none sc20 [("part", 2)] ⟨140, 15, 140, 46⟩) ⟨140, 11, 140, 47⟩) ⟨140, 4, 140, 47⟩) .nil)
def n28 : List Str := ["one", "other", "part"]
def p28 : List Str := ["one", "other"]
def f28 : Fn := ⟨2, 3, [false, false], b28⟩
def sc21 : Scope := { kind := PySem.ScopeKind.function, names := [(".0", PySem.NameKind.local), ("other", PySem.NameKind.local), ("_law_in", PySem.NameKind.globalImplicit), ("lot", PySem.NameKind.free)], isGenerator := false, isCoroutine := false }
def sc22 : Scope := { kind := PySem.ScopeKind.function, names := [(".0", PySem.NameKind.local), ("lot", PySem.NameKind.cell), ("any", PySem.NameKind.globalImplicit), ("lots", PySem.NameKind.free)], isGenerator := false, isCoroutine := false }
def b29 : Ss := (.cons (.ret (.comp (.var 1 "lot" ⟨142, 12, 142, 15⟩) (.nm 1 "lot" ⟨142, 20, 142, 23⟩) (.e (.var 0 "lots" ⟨142, 27, 142, 31⟩)) (some (.nt (.b1 .any ⟨142, 39, 142, 42⟩ (.comp (.bo true (.cmp PySem.CmpOp.NotEq (.var 2 "other" ⟨142, 44, 142, 49⟩) (.var 1 "lot" ⟨142, 53, 142, 56⟩) ⟨142, 44, 142, 56⟩) (.cons (.call 28 "_law_in" ⟨142, 61, 142, 68⟩ (.cons (.var 2 "other" ⟨142, 69, 142, 74⟩) (.cons (.var 1 "lot" ⟨142, 76, 142, 79⟩) .nil)) ⟨142, 61, 142, 80⟩) .nil) ⟨142, 44, 142, 80⟩) (.nm 2 "other" ⟨142, 85, 142, 90⟩) (.e (.var 0 "lots" ⟨142, 94, 142, 98⟩)) none sc21 [("other", 2)] ⟨142, 43, 142, 99⟩) ⟨142, 39, 142, 100⟩) ⟨142, 35, 142, 100⟩)) sc22 [("lot", 1)] ⟨142, 11, 142, 101⟩) ⟨142, 4, 142, 101⟩) .nil)
def n29 : List Str := ["lots", "lot", "other"]
def p29 : List Str := ["lots"]
def f29 : Fn := ⟨1, 3, [false], b29⟩
def sc23 : Scope := { kind := PySem.ScopeKind.function, names := [(".0", PySem.NameKind.local), ("part", PySem.NameKind.local), ("other", PySem.NameKind.free)], isGenerator := false, isCoroutine := false }
def b30 : Ss := (.cons (.ret (.b1 .any ⟨144, 11, 144, 14⟩ (.comp (.cmp PySem.CmpOp.In (.var 2 "part" ⟨144, 16, 144, 20⟩) (.var 1 "other" ⟨144, 24, 144, 29⟩) ⟨144, 16, 144, 29⟩) (.nm 2 "part" ⟨144, 34, 144, 38⟩) (.e (.var 0 "one" ⟨144, 42, 144, 45⟩)) none sc23 [("part", 2)] ⟨144, 15, 144, 46⟩) ⟨144, 11, 144, 47⟩) ⟨144, 4, 144, 47⟩) .nil)
def n30 : List Str := ["one", "other", "part"]
def p30 : List Str := ["one", "other"]
def f30 : Fn := ⟨2, 3, [false, false], b30⟩
def sc24 : Scope := { kind := PySem.ScopeKind.function, names := [(".0", PySem.NameKind.local), ("at", PySem.NameKind.local), ("lot", PySem.NameKind.local), ("_law_power", PySem.NameKind.globalImplicit), ("number", PySem.NameKind.free)], isGenerator := false, isCoroutine := false }
def sc25 : Scope := { kind := PySem.ScopeKind.function, names := [(".0", PySem.NameKind.local), ("other", PySem.NameKind.local), ("_law_meets", PySem.NameKind.globalImplicit), ("one", PySem.NameKind.free)], isGenerator := false, isCoroutine := false }
def sc26 : Scope := { kind := PySem.ScopeKind.function, names := [(".0", PySem.NameKind.local), ("at", PySem.NameKind.local), ("one", PySem.NameKind.cell), ("any", PySem.NameKind.globalImplicit), ("some", PySem.NameKind.free)], isGenerator := false, isCoroutine := false }
def b31 : Ss := (.cons (.asg 1 "best" ⟨146, 4, 146, 8⟩ (.int 0 0 ⟨146, 11, 146, 12⟩) ⟨146, 4, 146, 12⟩) (.cons (.for_ (.nm 2 "number" ⟨147, 8, 147, 14⟩) (.rng ⟨147, 18, 147, 23⟩ (.call 32 "_law_power" ⟨147, 24, 147, 34⟩ (.cons (.b1 .len ⟨147, 35, 147, 38⟩ (.var 0 "lots" ⟨147, 39, 147, 43⟩) ⟨147, 35, 147, 44⟩) .nil) ⟨147, 24, 147, 45⟩) ⟨147, 18, 147, 46⟩) (.cons (.asg 3 "some" ⟨148, 8, 148, 12⟩ (.comp (.var 5 "lot" ⟨148, 16, 148, 19⟩) (.row [(4, "at", ⟨148, 24, 148, 26⟩), (5, "lot", ⟨148, 28, 148, 31⟩)] 0 ⟨148, 24, 148, 31⟩) (.enm ⟨148, 35, 148, 44⟩ (.var 0 "lots" ⟨148, 45, 148, 49⟩) ⟨148, 35, 148, 50⟩) (some (.cmp PySem.CmpOp.Eq (.bin PySem.Operator.Mod (.bin PySem.Operator.FloorDiv (.var 2 "number" ⟨148, 54, 148, 60⟩) (.call 32 "_law_power" ⟨148, 64, 148, 74⟩ (.cons (.var 4 "at" ⟨148, 75, 148, 77⟩) .nil) ⟨148, 64, 148, 78⟩) ⟨148, 54, 148, 78⟩) (.int 2 0 ⟨148, 81, 148, 82⟩) ⟨148, 54, 148, 82⟩) (.int 1 0 ⟨148, 86, 148, 87⟩) ⟨148, 54, 148, 87⟩)) sc24 [("at", 4), ("lot", 5)] ⟨148, 15, 148, 88⟩) ⟨148, 8, 148, 88⟩) (.cons (.iff (.b1 .all ⟨149, 11, 149, 14⟩ (.comp (.nt (.b1 .any ⟨149, 20, 149, 23⟩ (.comp (.call 30 "_law_meets" ⟨149, 25, 149, 35⟩ (.cons (.var 6 "one" ⟨149, 36, 149, 39⟩) (.cons (.var 7 "other" ⟨149, 41, 149, 46⟩) .nil)) ⟨149, 25, 149, 47⟩) (.nm 7 "other" ⟨149, 52, 149, 57⟩) (.e (.shi (.var 3 "some" ⟨149, 61, 149, 65⟩) (.var 4 "at" ⟨149, 67, 149, 69⟩) ⟨149, 66, 149, 69⟩ ⟨149, 61, 149, 70⟩)) none sc25 [("other", 7)] ⟨149, 24, 149, 71⟩) ⟨149, 20, 149, 72⟩) ⟨149, 16, 149, 72⟩) (.row [(4, "at", ⟨149, 77, 149, 79⟩), (6, "one", ⟨149, 81, 149, 84⟩)] 0 ⟨149, 77, 149, 84⟩) (.enm ⟨149, 88, 149, 97⟩ (.var 3 "some" ⟨149, 98, 149, 102⟩) ⟨149, 88, 149, 103⟩) none sc26 [("at", 4), ("one", 6)] ⟨149, 15, 149, 104⟩) ⟨149, 11, 149, 105⟩) (.cons (.asg 1 "best" ⟨150, 12, 150, 16⟩ (.b2 .max ⟨150, 19, 150, 22⟩ (.var 1 "best" ⟨150, 23, 150, 27⟩) (.b1 .len ⟨150, 29, 150, 32⟩ (.var 3 "some" ⟨150, 33, 150, 37⟩) ⟨150, 29, 150, 38⟩) ⟨150, 19, 150, 39⟩) ⟨150, 12, 150, 39⟩) .nil) .nil ⟨149, 8, 150, 39⟩) .nil)) ⟨147, 4, 150, 39⟩) (.cons (.ret (.var 1 "best" ⟨151, 11, 151, 15⟩) ⟨151, 4, 151, 15⟩) .nil)))
def n31 : List Str := ["lots", "best", "number", "some", "at", "lot", "one", "other"]
def p31 : List Str := ["lots"]
def f31 : Fn := ⟨1, 8, [false], b31⟩
def b32 : Ss := (.cons (.asg 1 "found" ⟨153, 4, 153, 9⟩ (.int 1 0 ⟨153, 12, 153, 13⟩) ⟨153, 4, 153, 13⟩) (.cons (.for_ (.nm 2 "lap" ⟨154, 8, 154, 11⟩) (.rng ⟨154, 15, 154, 20⟩ (.var 0 "number" ⟨154, 21, 154, 27⟩) ⟨154, 15, 154, 28⟩) (.cons (.asg 1 "found" ⟨155, 8, 155, 13⟩ (.bin PySem.Operator.Mult (.int 2 0 ⟨155, 16, 155, 17⟩) (.var 1 "found" ⟨155, 20, 155, 25⟩) ⟨155, 16, 155, 25⟩) ⟨155, 8, 155, 25⟩) .nil) ⟨154, 4, 155, 25⟩) (.cons (.ret (.var 1 "found" ⟨156, 11, 156, 16⟩) ⟨156, 4, 156, 16⟩) .nil)))
def n32 : List Str := ["number", "found", "lap"]
def p32 : List Str := ["number"]
def f32 : Fn := ⟨1, 3, [false], b32⟩
def sc27 : Scope := { kind := PySem.ScopeKind.function, names := [(".0", PySem.NameKind.local), ("one", PySem.NameKind.local)], isGenerator := false, isCoroutine := false }
def sc28 : Scope := { kind := PySem.ScopeKind.function, names := [("lot", PySem.NameKind.free), ("lots", PySem.NameKind.free), ("many", PySem.NameKind.free), ("does_cross", PySem.NameKind.globalImplicit)], isGenerator := false, isCoroutine := false }
def sc29 : Scope := { kind := PySem.ScopeKind.function, names := [("lot", PySem.NameKind.free), ("lots", PySem.NameKind.free), ("many", PySem.NameKind.free), ("is_least_crossing", PySem.NameKind.globalImplicit)], isGenerator := false, isCoroutine := false }
def sc30 : Scope := { kind := PySem.ScopeKind.function, names := [("lots", PySem.NameKind.free), ("many", PySem.NameKind.free), ("number", PySem.NameKind.free), ("cut_short", PySem.NameKind.globalImplicit)], isGenerator := false, isCoroutine := false }
def sc31 : Scope := { kind := PySem.ScopeKind.function, names := [(".0", PySem.NameKind.local), ("one", PySem.NameKind.local), ("isinstance", PySem.NameKind.globalImplicit), ("BadLot", PySem.NameKind.globalImplicit), ("repr", PySem.NameKind.globalImplicit), ("lot", PySem.NameKind.free)], isGenerator := false, isCoroutine := false }
def b33 : Ss := (.cons (.par 3 "bad" ⟨158, 4, 158, 7⟩ 4 "odd" ⟨158, 9, 158, 12⟩ 0 ⟨158, 4, 158, 12⟩ (.call 24 "_law_of" ⟨158, 16, 158, 23⟩ (.cons (.var 0 "pot" ⟨158, 24, 158, 27⟩) (.cons (.lst (.cons (.non 0 ⟨158, 30, 158, 34⟩) (.cons (.neg (.int 1 0 ⟨158, 37, 158, 38⟩) ⟨158, 36, 158, 38⟩) (.cons (.int 41 0 ⟨158, 40, 158, 42⟩) (.cons (.bl true 0 ⟨158, 44, 158, 48⟩) .nil)))) ⟨158, 29, 158, 49⟩) .nil)) ⟨158, 16, 158, 50⟩) (.call 24 "_law_of" ⟨158, 52, 158, 59⟩ (.cons (.var 0 "pot" ⟨158, 60, 158, 63⟩) (.cons (.lst (.cons (.non 0 ⟨158, 66, 158, 70⟩) (.cons (.b1 .list ⟨158, 72, 158, 76⟩ (.var 2 "lots" ⟨158, 77, 158, 81⟩) ⟨158, 72, 158, 82⟩) (.cons (.tup (.cons (.var 1 "many" ⟨158, 85, 158, 89⟩) .nil) 0 ⟨158, 84, 158, 91⟩) (.cons (.tup (.cons (.tup (.cons (.var 1 "many" ⟨158, 95, 158, 99⟩) .nil) 0 ⟨158, 94, 158, 101⟩) .nil) 0 ⟨158, 93, 158, 103⟩) (.cons (.tup (.cons (.tup (.cons (.int 0 0 ⟨158, 107, 158, 108⟩) (.cons (.int 0 0 ⟨158, 110, 158, 111⟩) .nil)) 0 ⟨158, 106, 158, 112⟩) .nil) 0 ⟨158, 105, 158, 114⟩) (.cons (.rept (.tup (.cons (.tup .nil 0 ⟨158, 117, 158, 119⟩) .nil) 0 ⟨158, 116, 158, 121⟩) (.int 401 0 ⟨158, 124, 158, 127⟩) ⟨158, 116, 158, 127⟩) .nil)))))) ⟨158, 65, 158, 128⟩) .nil)) ⟨158, 52, 158, 129⟩) 0 ⟨158, 15, 158, 130⟩ ⟨158, 4, 158, 130⟩) (.cons (.unp [(7, "lot", ⟨159, 4, 159, 7⟩), (8, "number", ⟨159, 9, 159, 15⟩)] 0 ⟨159, 4, 159, 15⟩ (.tup (.cons (.call 24 "_law_of" ⟨159, 19, 159, 26⟩ (.cons (.var 0 "pot" ⟨159, 27, 159, 30⟩) (.cons (.lst (.cons (.non 0 ⟨159, 33, 159, 37⟩) (.cons (.lst (.cons (.int 0 0 ⟨159, 40, 159, 41⟩) .nil) ⟨159, 39, 159, 42⟩) (.cons (.tup (.cons (.var 1 "many" ⟨159, 45, 159, 49⟩) .nil) 0 ⟨159, 44, 159, 51⟩) (.cons (.tup (.cons (.bl true 0 ⟨159, 54, 159, 58⟩) .nil) 0 ⟨159, 53, 159, 60⟩) .nil)))) ⟨159, 32, 159, 61⟩) .nil)) ⟨159, 19, 159, 62⟩) (.cons (.call 24 "_law_of" ⟨159, 64, 159, 71⟩ (.cons (.var 0 "pot" ⟨159, 72, 159, 75⟩) (.cons (.lst (.cons (.non 0 ⟨159, 78, 159, 82⟩) (.cons (.neg (.int 1 0 ⟨159, 85, 159, 86⟩) ⟨159, 84, 159, 86⟩) (.cons (.bin PySem.Operator.Add (.var 1 "many" ⟨159, 88, 159, 92⟩) (.int 1 0 ⟨159, 95, 159, 96⟩) ⟨159, 88, 159, 96⟩) (.cons (.bl true 0 ⟨159, 98, 159, 102⟩) .nil)))) ⟨159, 77, 159, 103⟩) .nil)) ⟨159, 64, 159, 104⟩) .nil)) 0 ⟨159, 18, 159, 105⟩) ⟨159, 4, 159, 105⟩) (.cons (.for_ (.nm 5 "call" ⟨160, 8, 160, 12⟩) (.e (.tup (.cons (.fnv "crossing" 199 ⟨160, 17, 160, 25⟩) (.cons (.fnv "fewest_crossing" 216 ⟨160, 27, 160, 42⟩) (.cons (.fnv "apart_lots" 221 ⟨160, 44, 160, 54⟩) .nil))) 0 ⟨160, 16, 160, 55⟩)) (.cons (.asg 6 "some" ⟨161, 8, 161, 12⟩ (.lst (.cons (.call 34 "_law_caught" ⟨161, 16, 161, 27⟩ (.cons (.var 5 "call" ⟨161, 28, 161, 32⟩) (.cons (.var 4 "odd" ⟨161, 34, 161, 37⟩) (.cons (.var 3 "bad" ⟨161, 39, 161, 42⟩) .nil))) ⟨161, 16, 161, 43⟩) (.cons (.call 34 "_law_caught" ⟨161, 45, 161, 56⟩ (.cons (.var 5 "call" ⟨161, 57, 161, 61⟩) (.cons (.var 4 "odd" ⟨161, 63, 161, 66⟩) (.cons (.var 1 "many" ⟨161, 68, 161, 72⟩) .nil))) ⟨161, 45, 161, 73⟩) .nil)) ⟨161, 15, 161, 74⟩) ⟨161, 8, 161, 74⟩) (.cons (.iff (.bo false (.nt (.isx ⟨162, 15, 162, 25⟩ (.idx (.var 6 "some" ⟨162, 26, 162, 30⟩) (.int 0 0 ⟨162, 31, 162, 32⟩) ⟨162, 26, 162, 33⟩) "BadMany" 111 ⟨162, 35, 162, 42⟩ ⟨162, 15, 162, 43⟩) ⟨162, 11, 162, 43⟩) (.cons (.nt (.isx ⟨162, 51, 162, 61⟩ (.idx (.var 6 "some" ⟨162, 62, 162, 66⟩) (.int 1 0 ⟨162, 67, 162, 68⟩) ⟨162, 62, 162, 69⟩) "BadLots" 123 ⟨162, 71, 162, 78⟩ ⟨162, 51, 162, 79⟩) ⟨162, 47, 162, 79⟩) .nil) ⟨162, 11, 162, 79⟩) (.cons (.ret (.bl false 0 ⟨163, 19, 163, 24⟩) ⟨163, 12, 163, 24⟩) .nil) .nil ⟨162, 8, 163, 24⟩) (.cons (.iff (.cmp PySem.CmpOp.NotEq (.rep ⟨164, 11, 164, 15⟩ (.comp (.attr [111, 123, 147, 99, 135] (.var 9 "one" ⟨164, 17, 164, 20⟩) ⟨164, 17, 164, 26⟩) (.nm 9 "one" ⟨164, 31, 164, 34⟩) (.e (.var 6 "some" ⟨164, 38, 164, 42⟩)) none sc27 [("one", 9)] ⟨164, 16, 164, 43⟩) ⟨164, 11, 164, 44⟩) (.rep ⟨164, 48, 164, 52⟩ (.lst (.cons (.var 3 "bad" ⟨164, 54, 164, 57⟩) (.cons (.var 4 "odd" ⟨164, 59, 164, 62⟩) .nil)) ⟨164, 53, 164, 63⟩) ⟨164, 48, 164, 64⟩) ⟨164, 11, 164, 64⟩) (.cons (.ret (.bl false 0 ⟨165, 19, 165, 24⟩) ⟨165, 12, 165, 24⟩) .nil) .nil ⟨164, 8, 165, 24⟩) .nil))) ⟨160, 4, 165, 24⟩) (.cons (.asg 6 "some" ⟨166, 4, 166, 8⟩ (.lst (.cons (.idx (.heard [111, 123, 147, 99, 135] ⟨166, 12, 166, 22⟩ (.call 17 "does_cross" ⟨166, 31, 166, 41⟩ (.cons (.var 2 "lots" ⟨166, 42, 166, 46⟩) (.cons (.var 1 "many" ⟨166, 48, 166, 52⟩) (.cons (.var 7 "lot" ⟨166, 54, 166, 57⟩) .nil))) ⟨166, 31, 166, 58⟩) sc28 ⟨166, 23, 166, 58⟩ ⟨166, 12, 166, 59⟩) (.int 0 0 ⟨166, 60, 166, 61⟩) ⟨166, 12, 166, 62⟩) .nil) ⟨166, 11, 166, 63⟩) ⟨166, 4, 166, 63⟩) (.cons (.exp (.app 6 "some" ⟨167, 4, 167, 8⟩ ⟨167, 4, 167, 15⟩ (.idx (.heard [111, 123, 147, 99, 135] ⟨167, 16, 167, 26⟩ (.call 18 "is_least_crossing" ⟨167, 35, 167, 52⟩ (.cons (.var 2 "lots" ⟨167, 53, 167, 57⟩) (.cons (.var 1 "many" ⟨167, 59, 167, 63⟩) (.cons (.var 7 "lot" ⟨167, 65, 167, 68⟩) .nil))) ⟨167, 35, 167, 69⟩) sc29 ⟨167, 27, 167, 69⟩ ⟨167, 16, 167, 70⟩) (.int 0 0 ⟨167, 71, 167, 72⟩) ⟨167, 16, 167, 73⟩) ⟨167, 4, 167, 74⟩) ⟨167, 4, 167, 74⟩) (.cons (.exp (.app 6 "some" ⟨168, 4, 168, 8⟩ ⟨168, 4, 168, 15⟩ (.idx (.heard [111, 123, 147, 99, 135] ⟨168, 16, 168, 26⟩ (.call 21 "cut_short" ⟨168, 35, 168, 44⟩ (.cons (.var 2 "lots" ⟨168, 45, 168, 49⟩) (.cons (.var 1 "many" ⟨168, 51, 168, 55⟩) (.cons (.var 8 "number" ⟨168, 57, 168, 63⟩) .nil))) ⟨168, 35, 168, 64⟩) sc30 ⟨168, 27, 168, 64⟩ ⟨168, 16, 168, 65⟩) (.int 0 0 ⟨168, 66, 168, 67⟩) ⟨168, 16, 168, 68⟩) ⟨168, 4, 168, 69⟩) ⟨168, 4, 168, 69⟩) (.cons (.iff (.nt (.b1 .all ⟨169, 11, 169, 14⟩ (.comp (.bo true (.isx ⟨169, 16, 169, 26⟩ (.var 9 "one" ⟨169, 27, 169, 30⟩) "BadLot" 99 ⟨169, 32, 169, 38⟩ ⟨169, 16, 169, 39⟩) (.cons (.cmp PySem.CmpOp.Eq (.rep ⟨169, 44, 169, 48⟩ (.attr [111, 123, 147, 99, 135] (.var 9 "one" ⟨169, 49, 169, 52⟩) ⟨169, 49, 169, 58⟩) ⟨169, 44, 169, 59⟩) (.rep ⟨169, 63, 169, 67⟩ (.var 7 "lot" ⟨169, 68, 169, 71⟩) ⟨169, 63, 169, 72⟩) ⟨169, 44, 169, 72⟩) .nil) ⟨169, 16, 169, 72⟩) (.nm 9 "one" ⟨169, 77, 169, 80⟩) (.e (.shi (.var 6 "some" ⟨169, 84, 169, 88⟩) (.int 2 0 ⟨169, 90, 169, 91⟩) ⟨169, 89, 169, 91⟩ ⟨169, 84, 169, 92⟩)) none sc31 [("one", 9)] ⟨169, 15, 169, 93⟩) ⟨169, 11, 169, 94⟩) ⟨169, 7, 169, 94⟩) (.cons (.ret (.bl false 0 ⟨170, 15, 170, 20⟩) ⟨170, 8, 170, 20⟩) .nil) .nil ⟨169, 4, 170, 20⟩) (.cons (.ret (.bo true (.isx ⟨171, 11, 171, 21⟩ (.idx (.var 6 "some" ⟨171, 22, 171, 26⟩) (.int 2 0 ⟨171, 27, 171, 28⟩) ⟨171, 22, 171, 29⟩) "BadNumber" 135 ⟨171, 31, 171, 40⟩ ⟨171, 11, 171, 41⟩) (.cons (.cmp PySem.CmpOp.Eq (.rep ⟨171, 46, 171, 50⟩ (.attr [111, 123, 147, 99, 135] (.idx (.var 6 "some" ⟨171, 51, 171, 55⟩) (.int 2 0 ⟨171, 56, 171, 57⟩) ⟨171, 51, 171, 58⟩) ⟨171, 51, 171, 64⟩) ⟨171, 46, 171, 65⟩) (.rep ⟨171, 69, 171, 73⟩ (.var 8 "number" ⟨171, 74, 171, 80⟩) ⟨171, 69, 171, 81⟩) ⟨171, 46, 171, 81⟩) .nil) ⟨171, 11, 171, 81⟩) ⟨171, 4, 171, 81⟩) .nil))))))))
def n33 : List Str := ["pot", "many", "lots", "bad", "odd", "call", "some", "lot", "number", "one"]
def p33 : List Str := ["pot", "many", "lots"]
def f33 : Fn := ⟨3, 10, [true, false, false], b33⟩
def sc32 : Scope := { kind := PySem.ScopeKind.function, names := [("call", PySem.NameKind.free), ("lots", PySem.NameKind.free), ("many", PySem.NameKind.free)], isGenerator := false, isCoroutine := false }
def b34 : Ss := (.cons (.ret (.idx (.heard [111, 123, 147, 99, 135] ⟨173, 11, 173, 21⟩ (.callv 0 "call" ⟨173, 30, 173, 34⟩ [(199, 16, "crossing"), (216, 19, "fewest_crossing"), (221, 20, "apart_lots")] (.cons (.var 1 "lots" ⟨173, 35, 173, 39⟩) (.cons (.var 2 "many" ⟨173, 41, 173, 45⟩) .nil)) ⟨173, 30, 173, 46⟩) sc32 ⟨173, 22, 173, 46⟩ ⟨173, 11, 173, 47⟩) (.int 0 0 ⟨173, 48, 173, 49⟩) ⟨173, 11, 173, 50⟩) ⟨173, 4, 173, 50⟩) .nil)
def n34 : List Str := ["call", "lots", "many"]
def p34 : List Str := ["call", "lots", "many"]
def f34 : Fn := ⟨3, 3, [false, false, false], b34⟩
def sc33 : Scope := { kind := PySem.ScopeKind.function, names := [(".0", PySem.NameKind.local), ("lap", PySem.NameKind.local), ("_law_lot", PySem.NameKind.globalImplicit), ("many", PySem.NameKind.free), ("pot", PySem.NameKind.free)], isGenerator := false, isCoroutine := false }
def sc34 : Scope := { kind := PySem.ScopeKind.function, names := [(".0", PySem.NameKind.local), ("lot", PySem.NameKind.local), ("_law_take", PySem.NameKind.globalImplicit), ("pot", PySem.NameKind.free)], isGenerator := false, isCoroutine := false }
def sc35 : Scope := { kind := PySem.ScopeKind.function, names := [(".0", PySem.NameKind.local), ("one", PySem.NameKind.local), ("_law_meets", PySem.NameKind.globalImplicit), ("lot", PySem.NameKind.free)], isGenerator := false, isCoroutine := false }
def sc36 : Scope := { kind := PySem.ScopeKind.function, names := [(".0", PySem.NameKind.local), ("lot", PySem.NameKind.cell), ("all", PySem.NameKind.globalImplicit), ("lots", PySem.NameKind.free)], isGenerator := false, isCoroutine := false }
def sc37 : Scope := { kind := PySem.ScopeKind.function, names := [("lot", PySem.NameKind.local), ("len", PySem.NameKind.globalImplicit)], isGenerator := false, isCoroutine := false }
def sc38 : Scope := { kind := PySem.ScopeKind.function, names := [(".0", PySem.NameKind.local), ("lot", PySem.NameKind.local), ("len", PySem.NameKind.globalImplicit), ("number", PySem.NameKind.free)], isGenerator := false, isCoroutine := false }
def b35 : Ss := (.cons (.asg 1 "many" ⟨175, 4, 175, 8⟩ (.bin PySem.Operator.Add (.int 1 0 ⟨175, 11, 175, 12⟩) (.b1 .int ⟨175, 15, 175, 18⟩ (.call 23 "_law_take" ⟨175, 19, 175, 28⟩ (.cons (.var 0 "pot" ⟨175, 29, 175, 32⟩) (.cons (.int 6 0 ⟨175, 34, 175, 35⟩) .nil)) ⟨175, 19, 175, 36⟩) ⟨175, 15, 175, 37⟩) ⟨175, 11, 175, 37⟩) ⟨175, 4, 175, 37⟩) (.cons (.asg 2 "lots" ⟨176, 4, 176, 8⟩ (.comp (.call 26 "_law_lot" ⟨176, 12, 176, 20⟩ (.cons (.var 0 "pot" ⟨176, 21, 176, 24⟩) (.cons (.var 1 "many" ⟨176, 26, 176, 30⟩) .nil)) ⟨176, 12, 176, 31⟩) (.nm 9 "lap" ⟨176, 36, 176, 39⟩) (.rng ⟨176, 43, 176, 48⟩ (.call 23 "_law_take" ⟨176, 49, 176, 58⟩ (.cons (.var 0 "pot" ⟨176, 59, 176, 62⟩) (.cons (.int 7 0 ⟨176, 64, 176, 65⟩) .nil)) ⟨176, 49, 176, 66⟩) ⟨176, 43, 176, 67⟩) none sc33 [("lap", 9)] ⟨176, 11, 176, 68⟩) ⟨176, 4, 176, 68⟩) (.cons (.asg 2 "lots" ⟨177, 4, 177, 8⟩ (.b1 .tuple ⟨177, 11, 177, 16⟩ (.comp (.var 3 "lot" ⟨177, 18, 177, 21⟩) (.nm 3 "lot" ⟨177, 26, 177, 29⟩) (.e (.var 2 "lots" ⟨177, 33, 177, 37⟩)) (some (.bo false (.cmp PySem.CmpOp.NotEq (.var 3 "lot" ⟨177, 41, 177, 44⟩) (.tup .nil 0 ⟨177, 48, 177, 50⟩) ⟨177, 41, 177, 50⟩) (.cons (.cmp PySem.CmpOp.Eq (.call 23 "_law_take" ⟨177, 54, 177, 63⟩ (.cons (.var 0 "pot" ⟨177, 64, 177, 67⟩) (.cons (.int 6 0 ⟨177, 69, 177, 70⟩) .nil)) ⟨177, 54, 177, 71⟩) (.int 0 0 ⟨177, 75, 177, 76⟩) ⟨177, 54, 177, 76⟩) .nil) ⟨177, 41, 177, 76⟩)) sc34 [("lot", 3)] ⟨177, 17, 177, 77⟩) ⟨177, 11, 177, 78⟩) ⟨177, 4, 177, 78⟩) (.cons (.asg 4 "own" ⟨178, 4, 178, 7⟩ (.comp (.var 3 "lot" ⟨178, 11, 178, 14⟩) (.nm 3 "lot" ⟨178, 19, 178, 22⟩) (.e (.call 27 "_law_lots" ⟨178, 26, 178, 35⟩ (.cons (.var 1 "many" ⟨178, 36, 178, 40⟩) .nil) ⟨178, 26, 178, 41⟩)) (some (.b1 .all ⟨178, 45, 178, 48⟩ (.comp (.call 30 "_law_meets" ⟨178, 50, 178, 60⟩ (.cons (.var 3 "lot" ⟨178, 61, 178, 64⟩) (.cons (.var 10 "one" ⟨178, 66, 178, 69⟩) .nil)) ⟨178, 50, 178, 70⟩) (.nm 10 "one" ⟨178, 75, 178, 78⟩) (.e (.var 2 "lots" ⟨178, 82, 178, 86⟩)) none sc35 [("one", 10)] ⟨178, 49, 178, 87⟩) ⟨178, 45, 178, 88⟩)) sc36 [("lot", 3)] ⟨178, 10, 178, 89⟩) ⟨178, 4, 178, 89⟩) (.cons (.par 5 "due" ⟨179, 4, 179, 7⟩ 6 "core" ⟨179, 9, 179, 13⟩ 0 ⟨179, 4, 179, 13⟩ (.call 29 "_law_least" ⟨179, 17, 179, 27⟩ (.cons (.var 4 "own" ⟨179, 28, 179, 31⟩) .nil) ⟨179, 17, 179, 32⟩) (.call 29 "_law_least" ⟨179, 34, 179, 44⟩ (.cons (.slam ⟨179, 45, 179, 51⟩ (.sset ⟨179, 52, 179, 58⟩ ⟨179, 59, 179, 62⟩ (.var 2 "lots" ⟨179, 63, 179, 67⟩) ⟨179, 59, 179, 68⟩ ⟨179, 52, 179, 69⟩) ⟨179, 71, 179, 102⟩ 3 "lot" ⟨179, 82, 179, 85⟩ (.tup (.cons (.b1 .len ⟨179, 88, 179, 91⟩ (.var 3 "lot" ⟨179, 92, 179, 95⟩) ⟨179, 88, 179, 96⟩) (.cons (.var 3 "lot" ⟨179, 98, 179, 101⟩) .nil)) 0 ⟨179, 87, 179, 102⟩) sc37 ⟨179, 75, 179, 102⟩ ⟨179, 45, 179, 103⟩) .nil) ⟨179, 34, 179, 104⟩) 0 ⟨179, 16, 179, 105⟩ ⟨179, 4, 179, 105⟩) (.cons (.iff (.bo false (.cmp PySem.CmpOp.NotEq (.rep ⟨180, 7, 180, 11⟩ (.call 16 "crossing" ⟨180, 12, 180, 20⟩ (.cons (.var 2 "lots" ⟨180, 21, 180, 25⟩) (.cons (.var 1 "many" ⟨180, 27, 180, 31⟩) .nil)) ⟨180, 12, 180, 32⟩) ⟨180, 7, 180, 33⟩) (.rep ⟨180, 37, 180, 41⟩ (.b1 .tuple ⟨180, 42, 180, 47⟩ (.var 5 "due" ⟨180, 48, 180, 51⟩) ⟨180, 42, 180, 52⟩) ⟨180, 37, 180, 53⟩) ⟨180, 7, 180, 53⟩) (.cons (.cmp PySem.CmpOp.NotEq (.call 16 "crossing" ⟨180, 57, 180, 65⟩ (.cons (.b1 .tuple ⟨180, 66, 180, 71⟩ (.var 5 "due" ⟨180, 72, 180, 75⟩) ⟨180, 66, 180, 76⟩) (.cons (.var 1 "many" ⟨180, 78, 180, 82⟩) .nil)) ⟨180, 57, 180, 83⟩) (.b1 .tuple ⟨180, 87, 180, 92⟩ (.var 6 "core" ⟨180, 93, 180, 97⟩) ⟨180, 87, 180, 98⟩) ⟨180, 57, 180, 98⟩) .nil) ⟨180, 7, 180, 98⟩) (.cons (.ret (.bl false 0 ⟨181, 15, 181, 20⟩) ⟨181, 8, 181, 20⟩) .nil) .nil ⟨180, 4, 181, 20⟩) (.cons (.iff (.cmp PySem.CmpOp.NotEq (.rep ⟨182, 7, 182, 11⟩ (.call 19 "fewest_crossing" ⟨182, 12, 182, 27⟩ (.cons (.var 2 "lots" ⟨182, 28, 182, 32⟩) (.cons (.var 1 "many" ⟨182, 34, 182, 38⟩) .nil)) ⟨182, 12, 182, 39⟩) ⟨182, 7, 182, 40⟩) (.rep ⟨182, 44, 182, 48⟩ (.ife (.cmp PySem.CmpOp.NotEq (.var 5 "due" ⟨182, 64, 182, 67⟩) (.lst .nil ⟨182, 71, 182, 73⟩) ⟨182, 64, 182, 73⟩) (.b1 .len ⟨182, 49, 182, 52⟩ (.idx (.var 5 "due" ⟨182, 53, 182, 56⟩) (.int 0 0 ⟨182, 57, 182, 58⟩) ⟨182, 53, 182, 59⟩) ⟨182, 49, 182, 60⟩) (.non 0 ⟨182, 79, 182, 83⟩) ⟨182, 49, 182, 83⟩) ⟨182, 44, 182, 84⟩) ⟨182, 7, 182, 84⟩) (.cons (.ret (.bl false 0 ⟨183, 15, 183, 20⟩) ⟨183, 8, 183, 20⟩) .nil) .nil ⟨182, 4, 183, 20⟩) (.cons (.asg 7 "apart" ⟨184, 4, 184, 9⟩ (.call 20 "apart_lots" ⟨184, 12, 184, 22⟩ (.cons (.var 2 "lots" ⟨184, 23, 184, 27⟩) (.cons (.var 1 "many" ⟨184, 29, 184, 33⟩) .nil)) ⟨184, 12, 184, 34⟩) ⟨184, 4, 184, 34⟩) (.cons (.iff (.bo true (.cmp PySem.CmpOp.NotIn (.tup .nil 0 ⟨185, 7, 185, 9⟩) (.var 6 "core" ⟨185, 17, 185, 21⟩) ⟨185, 7, 185, 21⟩) (.cons (.bo false (.cmp PySem.CmpOp.NotEq (.var 7 "apart" ⟨185, 27, 185, 32⟩) (.call 31 "_law_apart" ⟨185, 36, 185, 46⟩ (.cons (.var 6 "core" ⟨185, 47, 185, 51⟩) .nil) ⟨185, 36, 185, 52⟩) ⟨185, 27, 185, 52⟩) (.cons (.bo true (.cmp PySem.CmpOp.NotEq (.var 5 "due" ⟨185, 57, 185, 60⟩) (.lst .nil ⟨185, 64, 185, 66⟩) ⟨185, 57, 185, 66⟩) (.cons (.cmp PySem.CmpOp.Lt (.b1 .len ⟨185, 71, 185, 74⟩ (.idx (.var 5 "due" ⟨185, 75, 185, 78⟩) (.int 0 0 ⟨185, 79, 185, 80⟩) ⟨185, 75, 185, 81⟩) ⟨185, 71, 185, 82⟩) (.var 7 "apart" ⟨185, 85, 185, 90⟩) ⟨185, 71, 185, 90⟩) .nil) ⟨185, 57, 185, 90⟩) .nil) ⟨185, 27, 185, 91⟩) .nil) ⟨185, 7, 185, 92⟩) (.cons (.ret (.bl false 0 ⟨186, 15, 186, 20⟩) ⟨186, 8, 186, 20⟩) .nil) .nil ⟨185, 4, 186, 20⟩) (.cons (.asg 8 "number" ⟨187, 4, 187, 10⟩ (.b1 .int ⟨187, 13, 187, 16⟩ (.call 23 "_law_take" ⟨187, 17, 187, 26⟩ (.cons (.var 0 "pot" ⟨187, 27, 187, 30⟩) (.cons (.bin PySem.Operator.Add (.var 1 "many" ⟨187, 32, 187, 36⟩) (.int 1 0 ⟨187, 39, 187, 40⟩) ⟨187, 32, 187, 40⟩) .nil)) ⟨187, 17, 187, 41⟩) ⟨187, 13, 187, 42⟩) ⟨187, 4, 187, 42⟩) (.cons (.iff (.cmp PySem.CmpOp.NotEq (.call 21 "cut_short" ⟨188, 7, 188, 16⟩ (.cons (.var 2 "lots" ⟨188, 17, 188, 21⟩) (.cons (.var 1 "many" ⟨188, 23, 188, 27⟩) (.cons (.var 8 "number" ⟨188, 29, 188, 35⟩) .nil))) ⟨188, 7, 188, 36⟩) (.b1 .tuple ⟨188, 40, 188, 45⟩ (.comp (.var 3 "lot" ⟨188, 47, 188, 50⟩) (.nm 3 "lot" ⟨188, 55, 188, 58⟩) (.e (.var 5 "due" ⟨188, 62, 188, 65⟩)) (some (.cmp PySem.CmpOp.LtE (.b1 .len ⟨188, 69, 188, 72⟩ (.var 3 "lot" ⟨188, 73, 188, 76⟩) ⟨188, 69, 188, 77⟩) (.var 8 "number" ⟨188, 81, 188, 87⟩) ⟨188, 69, 188, 87⟩)) sc38 [("lot", 3)] ⟨188, 46, 188, 88⟩) ⟨188, 40, 188, 89⟩) ⟨188, 7, 188, 89⟩) (.cons (.ret (.bl false 0 ⟨189, 15, 189, 20⟩) ⟨189, 8, 189, 20⟩) .nil) .nil ⟨188, 4, 189, 20⟩) (.cons (.for_ (.nm 3 "lot" ⟨190, 8, 190, 11⟩) (.e (.call 27 "_law_lots" ⟨190, 15, 190, 24⟩ (.cons (.var 1 "many" ⟨190, 25, 190, 29⟩) .nil) ⟨190, 15, 190, 30⟩)) (.cons (.iff (.bo false (.cmp PySem.CmpOp.NotEq (.call 17 "does_cross" ⟨191, 11, 191, 21⟩ (.cons (.var 2 "lots" ⟨191, 22, 191, 26⟩) (.cons (.var 1 "many" ⟨191, 28, 191, 32⟩) (.cons (.var 3 "lot" ⟨191, 34, 191, 37⟩) .nil))) ⟨191, 11, 191, 38⟩) (.cmp PySem.CmpOp.In (.var 3 "lot" ⟨191, 43, 191, 46⟩) (.var 4 "own" ⟨191, 50, 191, 53⟩) ⟨191, 43, 191, 53⟩) ⟨191, 11, 191, 54⟩) (.cons (.cmp PySem.CmpOp.NotEq (.call 18 "is_least_crossing" ⟨191, 58, 191, 75⟩ (.cons (.var 2 "lots" ⟨191, 76, 191, 80⟩) (.cons (.var 1 "many" ⟨191, 82, 191, 86⟩) (.cons (.var 3 "lot" ⟨191, 88, 191, 91⟩) .nil))) ⟨191, 58, 191, 92⟩) (.cmp PySem.CmpOp.In (.var 3 "lot" ⟨191, 97, 191, 100⟩) (.var 5 "due" ⟨191, 104, 191, 107⟩) ⟨191, 97, 191, 107⟩) ⟨191, 58, 191, 108⟩) .nil) ⟨191, 11, 191, 108⟩) (.cons (.ret (.bl false 0 ⟨192, 19, 192, 24⟩) ⟨192, 12, 192, 24⟩) .nil) .nil ⟨191, 8, 192, 24⟩) .nil) ⟨190, 4, 192, 24⟩) (.cons (.ret (.call 33 "_law_are_refused" ⟨193, 11, 193, 27⟩ (.cons (.var 0 "pot" ⟨193, 28, 193, 31⟩) (.cons (.var 1 "many" ⟨193, 33, 193, 37⟩) (.cons (.var 2 "lots" ⟨193, 39, 193, 43⟩) .nil))) ⟨193, 11, 193, 44⟩) ⟨193, 4, 193, 44⟩) .nil)))))))))))))
def n35 : List Str := ["pot", "many", "lots", "lot", "own", "due", "core", "apart", "number", "lap", "one"]
def p35 : List Str := ["pot"]
def f35 : Fn := ⟨1, 11, [true], b35⟩
def sc39 : Scope := { kind := PySem.ScopeKind.function, names := [(".0", PySem.NameKind.local), ("at", PySem.NameKind.local)], isGenerator := false, isCoroutine := false }
def sc40 : Scope := { kind := PySem.ScopeKind.function, names := [("pairs", PySem.NameKind.free), ("crossing", PySem.NameKind.globalImplicit)], isGenerator := false, isCoroutine := false }
def sc41 : Scope := { kind := PySem.ScopeKind.function, names := [(".0", PySem.NameKind.local), ("part", PySem.NameKind.local)], isGenerator := false, isCoroutine := false }
def sc42 : Scope := { kind := PySem.ScopeKind.function, names := [("singles", PySem.NameKind.free), ("apart_lots", PySem.NameKind.globalImplicit)], isGenerator := false, isCoroutine := false }
def sc43 : Scope := { kind := PySem.ScopeKind.function, names := [(".0", PySem.NameKind.local), ("lap", PySem.NameKind.local), ("_law_right", PySem.NameKind.globalImplicit), ("pot", PySem.NameKind.free)], isGenerator := false, isCoroutine := false }
def b36 : Ss := (.cons (.asg 4 "pairs" ⟨195, 4, 195, 9⟩ (.b1 .tuple ⟨195, 12, 195, 17⟩ (.comp (.tup (.cons (.bin PySem.Operator.Mult (.int 2 0 ⟨195, 20, 195, 21⟩) (.var 6 "at" ⟨195, 24, 195, 26⟩) ⟨195, 20, 195, 26⟩) (.cons (.bin PySem.Operator.Add (.bin PySem.Operator.Mult (.int 2 0 ⟨195, 28, 195, 29⟩) (.var 6 "at" ⟨195, 32, 195, 34⟩) ⟨195, 28, 195, 34⟩) (.int 1 0 ⟨195, 37, 195, 38⟩) ⟨195, 28, 195, 38⟩) .nil)) 0 ⟨195, 19, 195, 39⟩) (.nm 6 "at" ⟨195, 44, 195, 46⟩) (.rng ⟨195, 50, 195, 55⟩ (.int 9 0 ⟨195, 56, 195, 57⟩) ⟨195, 50, 195, 58⟩) none sc39 [("at", 6)] ⟨195, 18, 195, 59⟩) ⟨195, 12, 195, 60⟩) ⟨195, 4, 195, 60⟩) (.cons (.iff (.bo false (.cmp PySem.CmpOp.NotEq (.b1 .len ⟨196, 7, 196, 10⟩ (.call 16 "crossing" ⟨196, 11, 196, 19⟩ (.cons (.shi (.var 4 "pairs" ⟨196, 20, 196, 25⟩) (.int 8 0 ⟨196, 27, 196, 28⟩) ⟨196, 26, 196, 28⟩ ⟨196, 20, 196, 29⟩) (.cons (.int 18 0 ⟨196, 31, 196, 33⟩) .nil)) ⟨196, 11, 196, 34⟩) ⟨196, 7, 196, 35⟩) (.int 256 0 ⟨196, 39, 196, 42⟩) ⟨196, 7, 196, 42⟩) (.cons (.cmp PySem.CmpOp.NotEq (.call 20 "apart_lots" ⟨196, 46, 196, 56⟩ (.cons (.var 4 "pairs" ⟨196, 57, 196, 62⟩) (.cons (.int 18 0 ⟨196, 64, 196, 66⟩) .nil)) ⟨196, 46, 196, 67⟩) (.int 9 0 ⟨196, 71, 196, 72⟩) ⟨196, 46, 196, 72⟩) .nil) ⟨196, 7, 196, 72⟩) (.cons (.ret (.bl false 0 ⟨197, 15, 197, 20⟩) ⟨197, 8, 197, 20⟩) .nil) .nil ⟨196, 4, 197, 20⟩) (.cons (.asg 1 "caught" ⟨198, 4, 198, 10⟩ (.idx (.heard [111, 123, 147, 99, 135] ⟨198, 13, 198, 23⟩ (.call 16 "crossing" ⟨198, 32, 198, 40⟩ (.cons (.var 4 "pairs" ⟨198, 41, 198, 46⟩) (.cons (.int 18 0 ⟨198, 48, 198, 50⟩) .nil)) ⟨198, 32, 198, 51⟩) sc40 ⟨198, 24, 198, 51⟩ ⟨198, 13, 198, 52⟩) (.int 0 0 ⟨198, 53, 198, 54⟩) ⟨198, 13, 198, 55⟩) ⟨198, 4, 198, 55⟩) (.cons (.iff (.bo false (.nt (.isx ⟨199, 11, 199, 21⟩ (.var 1 "caught" ⟨199, 22, 199, 28⟩) "TooMany" 147 ⟨199, 30, 199, 37⟩ ⟨199, 11, 199, 38⟩) ⟨199, 7, 199, 38⟩) (.cons (.cmp PySem.CmpOp.NotEq (.attr [111, 123, 147, 99, 135] (.var 1 "caught" ⟨199, 42, 199, 48⟩) ⟨199, 42, 199, 54⟩) (.int 400 0 ⟨199, 58, 199, 61⟩) ⟨199, 42, 199, 61⟩) .nil) ⟨199, 7, 199, 61⟩) (.cons (.ret (.bl false 0 ⟨200, 15, 200, 20⟩) ⟨200, 8, 200, 20⟩) .nil) .nil ⟨199, 4, 200, 20⟩) (.cons (.asg 5 "singles" ⟨201, 4, 201, 11⟩ (.b1 .tuple ⟨201, 14, 201, 19⟩ (.comp (.tup (.cons (.var 7 "part" ⟨201, 22, 201, 26⟩) .nil) 0 ⟨201, 21, 201, 28⟩) (.nm 7 "part" ⟨201, 33, 201, 37⟩) (.rng ⟨201, 41, 201, 46⟩ (.int 17 0 ⟨201, 47, 201, 49⟩) ⟨201, 41, 201, 50⟩) none sc41 [("part", 7)] ⟨201, 20, 201, 51⟩) ⟨201, 14, 201, 52⟩) ⟨201, 4, 201, 52⟩) (.cons (.asg 1 "caught" ⟨202, 4, 202, 10⟩ (.idx (.heard [111, 123, 147, 99, 135] ⟨202, 13, 202, 23⟩ (.call 20 "apart_lots" ⟨202, 32, 202, 42⟩ (.cons (.var 5 "singles" ⟨202, 43, 202, 50⟩) (.cons (.int 20 0 ⟨202, 52, 202, 54⟩) .nil)) ⟨202, 32, 202, 55⟩) sc42 ⟨202, 24, 202, 55⟩ ⟨202, 13, 202, 56⟩) (.int 0 0 ⟨202, 57, 202, 58⟩) ⟨202, 13, 202, 59⟩) ⟨202, 4, 202, 59⟩) (.cons (.iff (.bo false (.nt (.isx ⟨203, 11, 203, 21⟩ (.var 1 "caught" ⟨203, 22, 203, 28⟩) "TooMany" 147 ⟨203, 30, 203, 37⟩ ⟨203, 11, 203, 38⟩) ⟨203, 7, 203, 38⟩) (.cons (.cmp PySem.CmpOp.NotEq (.attr [111, 123, 147, 99, 135] (.var 1 "caught" ⟨203, 42, 203, 48⟩) ⟨203, 42, 203, 54⟩) (.int 16 0 ⟨203, 58, 203, 60⟩) ⟨203, 42, 203, 60⟩) (.cons (.cmp PySem.CmpOp.NotEq (.call 16 "crossing" ⟨203, 64, 203, 72⟩ (.cons (.var 5 "singles" ⟨203, 73, 203, 80⟩) (.cons (.int 20 0 ⟨203, 82, 203, 84⟩) .nil)) ⟨203, 64, 203, 85⟩) (.tup (.cons (.trng ⟨203, 90, 203, 95⟩ ⟨203, 96, 203, 101⟩ (.int 17 0 ⟨203, 102, 203, 104⟩) ⟨203, 96, 203, 105⟩ ⟨203, 90, 203, 106⟩) .nil) 0 ⟨203, 89, 203, 108⟩) ⟨203, 64, 203, 108⟩) .nil)) ⟨203, 7, 203, 108⟩) (.cons (.ret (.bl false 0 ⟨204, 15, 204, 20⟩) ⟨204, 8, 204, 20⟩) .nil) .nil ⟨203, 4, 204, 20⟩) (.cons (.iff (.bo false (.cmp PySem.CmpOp.NotEq (.call 16 "crossing" ⟨205, 7, 205, 15⟩ (.cons (.tup .nil 0 ⟨205, 16, 205, 18⟩) (.cons (.int 3 0 ⟨205, 20, 205, 21⟩) .nil)) ⟨205, 7, 205, 22⟩) (.tup (.cons (.tup .nil 0 ⟨205, 27, 205, 29⟩) .nil) 0 ⟨205, 26, 205, 31⟩) ⟨205, 7, 205, 31⟩) (.cons (.cmp PySem.CmpOp.NotEq (.call 16 "crossing" ⟨205, 35, 205, 43⟩ (.cons (.tup (.cons (.tup .nil 0 ⟨205, 45, 205, 47⟩) .nil) 0 ⟨205, 44, 205, 49⟩) (.cons (.int 3 0 ⟨205, 51, 205, 52⟩) .nil)) ⟨205, 35, 205, 53⟩) (.tup .nil 0 ⟨205, 57, 205, 59⟩) ⟨205, 35, 205, 59⟩) (.cons (.cmp PySem.CmpOp.IsNot (.call 19 "fewest_crossing" ⟨205, 63, 205, 78⟩ (.cons (.tup (.cons (.tup .nil 0 ⟨205, 80, 205, 82⟩) .nil) 0 ⟨205, 79, 205, 84⟩) (.cons (.int 3 0 ⟨205, 86, 205, 87⟩) .nil)) ⟨205, 63, 205, 88⟩) (.non 0 ⟨205, 96, 205, 100⟩) ⟨205, 63, 205, 100⟩) .nil)) ⟨205, 7, 205, 100⟩) (.cons (.ret (.bl false 0 ⟨206, 15, 206, 20⟩) ⟨206, 8, 206, 20⟩) .nil) .nil ⟨205, 4, 206, 20⟩) (.cons (.for_ (.nm 2 "place" ⟨207, 8, 207, 13⟩) (.e (.call 25 "_law_places" ⟨207, 17, 207, 28⟩ (.cons (.var 0 "script" ⟨207, 29, 207, 35⟩) (.cons (.int 4 0 ⟨207, 37, 207, 38⟩) .nil)) ⟨207, 17, 207, 39⟩)) (.cons (.asg 3 "pot" ⟨208, 8, 208, 11⟩ (.call 22 "_law_pot" ⟨208, 14, 208, 22⟩ (.cons (.var 0 "script" ⟨208, 23, 208, 29⟩) (.cons (.var 2 "place" ⟨208, 31, 208, 36⟩) .nil)) ⟨208, 14, 208, 37⟩) ⟨208, 8, 208, 37⟩) (.cons (.iff (.nt (.b1 .all ⟨209, 15, 209, 18⟩ (.comp (.call 35 "_law_right" ⟨209, 20, 209, 30⟩ (.cons (.var 3 "pot" ⟨209, 31, 209, 34⟩) .nil) ⟨209, 20, 209, 35⟩) (.nm 8 "lap" ⟨209, 40, 209, 43⟩) (.rng ⟨209, 47, 209, 52⟩ (.int 6 0 ⟨209, 53, 209, 54⟩) ⟨209, 47, 209, 55⟩) none sc43 [("lap", 8)] ⟨209, 19, 209, 56⟩) ⟨209, 15, 209, 57⟩) ⟨209, 11, 209, 57⟩) (.cons (.ret (.bl false 0 ⟨210, 19, 210, 24⟩) ⟨210, 12, 210, 24⟩) .nil) .nil ⟨209, 8, 210, 24⟩) .nil)) ⟨207, 4, 210, 24⟩) (.cons (.ret (.bl true 0 ⟨211, 11, 211, 15⟩) ⟨211, 4, 211, 15⟩) .nil))))))))))
def n36 : List Str := ["script", "caught", "place", "pot", "pairs", "singles", "at", "part", "lap"]
def p36 : List Str := ["script"]
def f36 : Fn := ⟨1, 9, [false], b36⟩
def Pm (i : Nat) : Option Fn := [f0, f1, f2, f3, f4, f5, f6, f7, f8, f9, f10, f11, f12, f13, f14, f15, f16, f17, f18, f19, f20, f21, f22, f23, f24, f25, f26, f27, f28, f29, f30, f31, f32, f33, f34, f35, f36][i]?
theorem tx0 : defBody (top 1) = b0.toX := by kernel_rfl
theorem ok0 : okSs ⟨n0, defScope (top 1), blt, fns, gis, true, false⟩ b0 = true := by decide +kernel
theorem fs0 : FnScope n0 p0 (defScope (top 1)) := ⟨by kernel_rfl, by kernel_rfl, by kernel_rfl, by decide +kernel, by kernel_rfl, by decide +kernel, by decide +kernel⟩
theorem tx1 : defBody (top 2) = b1.toX := by kernel_rfl
theorem ok1 : okSs ⟨n1, defScope (top 2), blt, fns, gis, true, false⟩ b1 = true := by decide +kernel
theorem fs1 : FnScope n1 p1 (defScope (top 2)) := ⟨by kernel_rfl, by kernel_rfl, by kernel_rfl, by decide +kernel, by kernel_rfl, by decide +kernel, by decide +kernel⟩
theorem tx2 : defBody (top 3) = b2.toX := by kernel_rfl
theorem ok2 : okSs ⟨n2, defScope (top 3), blt, fns, gis, true, false⟩ b2 = true := by decide +kernel
theorem fs2 : FnScope n2 p2 (defScope (top 3)) := ⟨by kernel_rfl, by kernel_rfl, by kernel_rfl, by decide +kernel, by kernel_rfl, by decide +kernel, by decide +kernel⟩
theorem tx3 : defBody (top 4) = b3.toX := by kernel_rfl
theorem ok3 : okSs ⟨n3, defScope (top 4), blt, fns, gis, true, false⟩ b3 = true := by decide +kernel
theorem fs3 : FnScope n3 p3 (defScope (top 4)) := ⟨by kernel_rfl, by kernel_rfl, by kernel_rfl, by decide +kernel, by kernel_rfl, by decide +kernel, by decide +kernel⟩
theorem tx4 : defBody (top 5) = b4.toX := by kernel_rfl
theorem ok4 : okSs ⟨n4, defScope (top 5), blt, fns, gis, true, false⟩ b4 = true := by decide +kernel
theorem fs4 : FnScope n4 p4 (defScope (top 5)) := ⟨by kernel_rfl, by kernel_rfl, by kernel_rfl, by decide +kernel, by kernel_rfl, by decide +kernel, by decide +kernel⟩
theorem tx5 : defBody (top 6) = b5.toX := by kernel_rfl
theorem ok5 : okSs ⟨n5, defScope (top 6), blt, fns, gis, true, false⟩ b5 = true := by decide +kernel
theorem fs5 : FnScope n5 p5 (defScope (top 6)) := ⟨by kernel_rfl, by kernel_rfl, by kernel_rfl, by decide +kernel, by kernel_rfl, by decide +kernel, by decide +kernel⟩
theorem tx6 : defBody (top 7) = b6.toX := by kernel_rfl
theorem ok6 : okSs ⟨n6, defScope (top 7), blt, fns, gis, true, false⟩ b6 = true := by decide +kernel
theorem fs6 : FnScope n6 p6 (defScope (top 7)) := ⟨by kernel_rfl, by kernel_rfl, by kernel_rfl, by decide +kernel, by kernel_rfl, by decide +kernel, by decide +kernel⟩
theorem tx7 : defBody (top 8) = b7.toX := by kernel_rfl
theorem ok7 : okSs ⟨n7, defScope (top 8), blt, fns, gis, true, false⟩ b7 = true := by decide +kernel
theorem fs7 : FnScope n7 p7 (defScope (top 8)) := ⟨by kernel_rfl, by kernel_rfl, by kernel_rfl, by decide +kernel, by kernel_rfl, by decide +kernel, by decide +kernel⟩
theorem tx8 : defBody (top 9) = b8.toX := by kernel_rfl
theorem ok8 : okSs ⟨n8, defScope (top 9), blt, fns, gis, true, false⟩ b8 = true := by decide +kernel
theorem fs8 : FnScope n8 p8 (defScope (top 9)) := ⟨by kernel_rfl, by kernel_rfl, by kernel_rfl, by decide +kernel, by kernel_rfl, by decide +kernel, by decide +kernel⟩
theorem tx9 : defBody (top 19) = b9.toX := by kernel_rfl
theorem ok9 : okSs ⟨n9, defScope (top 19), blt, fns, gis, true, false⟩ b9 = true := by decide +kernel
theorem fs9 : FnScope n9 p9 (defScope (top 19)) := ⟨by kernel_rfl, by kernel_rfl, by kernel_rfl, by decide +kernel, by kernel_rfl, by decide +kernel, by decide +kernel⟩
theorem tx10 : defBody (top 20) = b10.toX := by kernel_rfl
theorem ok10 : okSs ⟨n10, defScope (top 20), blt, fns, gis, true, false⟩ b10 = true := by decide +kernel
theorem fs10 : FnScope n10 p10 (defScope (top 20)) := ⟨by kernel_rfl, by kernel_rfl, by kernel_rfl, by decide +kernel, by kernel_rfl, by decide +kernel, by decide +kernel⟩
theorem tx11 : defBody (top 23) = b11.toX := by kernel_rfl
theorem ok11 : okSs ⟨n11, defScope (top 23), blt, fns, gis, true, false⟩ b11 = true := by decide +kernel
theorem fs11 : FnScope n11 p11 (defScope (top 23)) := ⟨by kernel_rfl, by kernel_rfl, by kernel_rfl, by decide +kernel, by kernel_rfl, by decide +kernel, by decide +kernel⟩
theorem tx12 : defBody (top 24) = b12.toX := by kernel_rfl
theorem ok12 : okSs ⟨n12, defScope (top 24), blt, fns, gis, true, false⟩ b12 = true := by decide +kernel
theorem fs12 : FnScope n12 p12 (defScope (top 24)) := ⟨by kernel_rfl, by kernel_rfl, by kernel_rfl, by decide +kernel, by kernel_rfl, by decide +kernel, by decide +kernel⟩
theorem tx13 : defBody (top 25) = b13.toX := by kernel_rfl
theorem ok13 : okSs ⟨n13, defScope (top 25), blt, fns, gis, true, false⟩ b13 = true := by decide +kernel
theorem fs13 : FnScope n13 p13 (defScope (top 25)) := ⟨by kernel_rfl, by kernel_rfl, by kernel_rfl, by decide +kernel, by kernel_rfl, by decide +kernel, by decide +kernel⟩
theorem tx14 : defBody (top 26) = b14.toX := by kernel_rfl
theorem ok14 : okSs ⟨n14, defScope (top 26), blt, fns, gis, true, true⟩ b14 = true := by decide +kernel
theorem fs14 : FnScope n14 p14 (defScope (top 26)) := ⟨by kernel_rfl, by kernel_rfl, by kernel_rfl, by decide +kernel, by kernel_rfl, by decide +kernel, by decide +kernel⟩
theorem tx15 : defBody (top 27) = b15.toX := by kernel_rfl
theorem ok15 : okSs ⟨n15, defScope (top 27), blt, fns, gis, true, false⟩ b15 = true := by decide +kernel
theorem fs15 : FnScope n15 p15 (defScope (top 27)) := ⟨by kernel_rfl, by kernel_rfl, by kernel_rfl, by decide +kernel, by kernel_rfl, by decide +kernel, by decide +kernel⟩
theorem tx16 : defBody (top 28) = b16.toX := by kernel_rfl
theorem ok16 : okSs ⟨n16, defScope (top 28), blt, fns, gis, true, false⟩ b16 = true := by decide +kernel
theorem fs16 : FnScope n16 p16 (defScope (top 28)) := ⟨by kernel_rfl, by kernel_rfl, by kernel_rfl, by decide +kernel, by kernel_rfl, by decide +kernel, by decide +kernel⟩
theorem tx17 : defBody (top 29) = b17.toX := by kernel_rfl
theorem ok17 : okSs ⟨n17, defScope (top 29), blt, fns, gis, true, false⟩ b17 = true := by decide +kernel
theorem fs17 : FnScope n17 p17 (defScope (top 29)) := ⟨by kernel_rfl, by kernel_rfl, by kernel_rfl, by decide +kernel, by kernel_rfl, by decide +kernel, by decide +kernel⟩
theorem tx18 : defBody (top 30) = b18.toX := by kernel_rfl
theorem ok18 : okSs ⟨n18, defScope (top 30), blt, fns, gis, true, false⟩ b18 = true := by decide +kernel
theorem fs18 : FnScope n18 p18 (defScope (top 30)) := ⟨by kernel_rfl, by kernel_rfl, by kernel_rfl, by decide +kernel, by kernel_rfl, by decide +kernel, by decide +kernel⟩
theorem tx19 : defBody (top 31) = b19.toX := by kernel_rfl
theorem ok19 : okSs ⟨n19, defScope (top 31), blt, fns, gis, true, false⟩ b19 = true := by decide +kernel
theorem fs19 : FnScope n19 p19 (defScope (top 31)) := ⟨by kernel_rfl, by kernel_rfl, by kernel_rfl, by decide +kernel, by kernel_rfl, by decide +kernel, by decide +kernel⟩
theorem tx20 : defBody (top 32) = b20.toX := by kernel_rfl
theorem ok20 : okSs ⟨n20, defScope (top 32), blt, fns, gis, true, false⟩ b20 = true := by decide +kernel
theorem fs20 : FnScope n20 p20 (defScope (top 32)) := ⟨by kernel_rfl, by kernel_rfl, by kernel_rfl, by decide +kernel, by kernel_rfl, by decide +kernel, by decide +kernel⟩
theorem tx21 : defBody (top 33) = b21.toX := by kernel_rfl
theorem ok21 : okSs ⟨n21, defScope (top 33), blt, fns, gis, true, false⟩ b21 = true := by decide +kernel
theorem fs21 : FnScope n21 p21 (defScope (top 33)) := ⟨by kernel_rfl, by kernel_rfl, by kernel_rfl, by decide +kernel, by kernel_rfl, by decide +kernel, by decide +kernel⟩
theorem tx22 : defBody (top 35) = b22.toX := by kernel_rfl
theorem ok22 : okSs ⟨n22, defScope (top 35), blt, fns, gis, true, false⟩ b22 = true := by decide +kernel
theorem fs22 : FnScope n22 p22 (defScope (top 35)) := ⟨by kernel_rfl, by kernel_rfl, by kernel_rfl, by decide +kernel, by kernel_rfl, by decide +kernel, by decide +kernel⟩
theorem tx23 : defBody (top 36) = b23.toX := by kernel_rfl
theorem ok23 : okSs ⟨n23, defScope (top 36), blt, fns, gis, true, false⟩ b23 = true := by decide +kernel
theorem fs23 : FnScope n23 p23 (defScope (top 36)) := ⟨by kernel_rfl, by kernel_rfl, by kernel_rfl, by decide +kernel, by kernel_rfl, by decide +kernel, by decide +kernel⟩
theorem tx24 : defBody (top 37) = b24.toX := by kernel_rfl
theorem ok24 : okSs ⟨n24, defScope (top 37), blt, fns, gis, true, false⟩ b24 = true := by decide +kernel
theorem fs24 : FnScope n24 p24 (defScope (top 37)) := ⟨by kernel_rfl, by kernel_rfl, by kernel_rfl, by decide +kernel, by kernel_rfl, by decide +kernel, by decide +kernel⟩
theorem tx25 : defBody (top 38) = b25.toX := by kernel_rfl
theorem ok25 : okSs ⟨n25, defScope (top 38), blt, fns, gis, true, false⟩ b25 = true := by decide +kernel
theorem fs25 : FnScope n25 p25 (defScope (top 38)) := ⟨by kernel_rfl, by kernel_rfl, by kernel_rfl, by decide +kernel, by kernel_rfl, by decide +kernel, by decide +kernel⟩
theorem tx26 : defBody (top 40) = b26.toX := by kernel_rfl
theorem ok26 : okSs ⟨n26, defScope (top 40), blt, fns, gis, true, false⟩ b26 = true := by decide +kernel
theorem fs26 : FnScope n26 p26 (defScope (top 40)) := ⟨by kernel_rfl, by kernel_rfl, by kernel_rfl, by decide +kernel, by kernel_rfl, by decide +kernel, by decide +kernel⟩
theorem tx27 : defBody (top 41) = b27.toX := by kernel_rfl
theorem ok27 : okSs ⟨n27, defScope (top 41), blt, fns, gis, true, true⟩ b27 = true := by decide +kernel
theorem fs27 : FnScope n27 p27 (defScope (top 41)) := ⟨by kernel_rfl, by kernel_rfl, by kernel_rfl, by decide +kernel, by kernel_rfl, by decide +kernel, by decide +kernel⟩
theorem tx28 : defBody (top 42) = b28.toX := by kernel_rfl
theorem ok28 : okSs ⟨n28, defScope (top 42), blt, fns, gis, true, false⟩ b28 = true := by decide +kernel
theorem fs28 : FnScope n28 p28 (defScope (top 42)) := ⟨by kernel_rfl, by kernel_rfl, by kernel_rfl, by decide +kernel, by kernel_rfl, by decide +kernel, by decide +kernel⟩
theorem tx29 : defBody (top 43) = b29.toX := by kernel_rfl
theorem ok29 : okSs ⟨n29, defScope (top 43), blt, fns, gis, true, false⟩ b29 = true := by decide +kernel
theorem fs29 : FnScope n29 p29 (defScope (top 43)) := ⟨by kernel_rfl, by kernel_rfl, by kernel_rfl, by decide +kernel, by kernel_rfl, by decide +kernel, by decide +kernel⟩
theorem tx30 : defBody (top 44) = b30.toX := by kernel_rfl
theorem ok30 : okSs ⟨n30, defScope (top 44), blt, fns, gis, true, false⟩ b30 = true := by decide +kernel
theorem fs30 : FnScope n30 p30 (defScope (top 44)) := ⟨by kernel_rfl, by kernel_rfl, by kernel_rfl, by decide +kernel, by kernel_rfl, by decide +kernel, by decide +kernel⟩
theorem tx31 : defBody (top 45) = b31.toX := by kernel_rfl
theorem ok31 : okSs ⟨n31, defScope (top 45), blt, fns, gis, true, false⟩ b31 = true := by decide +kernel
theorem fs31 : FnScope n31 p31 (defScope (top 45)) := ⟨by kernel_rfl, by kernel_rfl, by kernel_rfl, by decide +kernel, by kernel_rfl, by decide +kernel, by decide +kernel⟩
theorem tx32 : defBody (top 46) = b32.toX := by kernel_rfl
theorem ok32 : okSs ⟨n32, defScope (top 46), blt, fns, gis, true, false⟩ b32 = true := by decide +kernel
theorem fs32 : FnScope n32 p32 (defScope (top 46)) := ⟨by kernel_rfl, by kernel_rfl, by kernel_rfl, by decide +kernel, by kernel_rfl, by decide +kernel, by decide +kernel⟩
theorem tx33 : defBody (top 47) = b33.toX := by kernel_rfl
theorem ok33 : okSs ⟨n33, defScope (top 47), blt, fns, gis, true, true⟩ b33 = true := by decide +kernel
theorem fs33 : FnScope n33 p33 (defScope (top 47)) := ⟨by kernel_rfl, by kernel_rfl, by kernel_rfl, by decide +kernel, by kernel_rfl, by decide +kernel, by decide +kernel⟩
theorem tx34 : defBody (top 48) = b34.toX := by kernel_rfl
theorem ok34 : okSs ⟨n34, defScope (top 48), blt, fns, gis, true, true⟩ b34 = true := by decide +kernel
theorem fs34 : FnScope n34 p34 (defScope (top 48)) := ⟨by kernel_rfl, by kernel_rfl, by kernel_rfl, by decide +kernel, by kernel_rfl, by decide +kernel, by decide +kernel⟩
theorem tx35 : defBody (top 49) = b35.toX := by kernel_rfl
theorem ok35 : okSs ⟨n35, defScope (top 49), blt, fns, gis, true, true⟩ b35 = true := by decide +kernel
theorem fs35 : FnScope n35 p35 (defScope (top 49)) := ⟨by kernel_rfl, by kernel_rfl, by kernel_rfl, by decide +kernel, by kernel_rfl, by decide +kernel, by decide +kernel⟩
theorem tx36 : defBody (top 50) = b36.toX := by kernel_rfl
theorem ok36 : okSs ⟨n36, defScope (top 50), blt, fns, gis, true, true⟩ b36 = true := by decide +kernel
theorem fs36 : FnScope n36 p36 (defScope (top 50)) := ⟨by kernel_rfl, by kernel_rfl, by kernel_rfl, by decide +kernel, by kernel_rfl, by decide +kernel, by decide +kernel⟩
theorem txh : defBody (top 39) = bHeard ⟨126, 4, 126, 10⟩ ⟨126, 12, 126, 16⟩ ⟨126, 4, 126, 16⟩ ⟨126, 20, 126, 24⟩ ⟨126, 26, 126, 30⟩ ⟨126, 19, 126, 31⟩ ⟨126, 4, 126, 31⟩ ⟨128, 8, 128, 12⟩ ⟨128, 15, 128, 19⟩ ⟨128, 15, 128, 21⟩ ⟨128, 8, 128, 21⟩ ⟨129, 11, 129, 21⟩ ⟨130, 8, 130, 14⟩ ⟨130, 17, 130, 22⟩ ⟨130, 8, 130, 22⟩ ⟨129, 4, 130, 22⟩ ⟨127, 4, 130, 22⟩ ⟨131, 12, 131, 18⟩ ⟨131, 20, 131, 24⟩ ⟨131, 11, 131, 25⟩ ⟨131, 4, 131, 25⟩ := by kernel_rfl
theorem sch : defScope (top 39) = scHeard := by kernel_rfl
theorem bdh : Bd "_law_heard" (top 39) ["call"] := fun _ _ _ _ _ _ us hl => match us, hl with | [_], _ => rfl
end K11
end
section
set_option linter.all false
set_option autoImplicit false
/-! Plain theory of crossings: no program in sight. -/
namespace Cr
abbrev Lot := List Int
def Asc (a : Lot) : Prop := a.Pairwise (· < ·)
def sub (a b : Lot) : Prop := ∀ x ∈ a, x ∈ b
def meet (a b : Lot) : Prop := ∃ x ∈ a, x ∈ b
def subB (a b : Lot) : Bool := a.all fun p => b.contains p
def meetB (a b : Lot) : Bool := a.any fun p => b.contains p
theorem subB_iff {a b : Lot} : subB a b = true ↔ sub a b := by simp [subB, sub]
theorem meetB_iff {a b : Lot} : meetB a b = true ↔ meet a b := by simp [meetB, meet]
theorem sub_refl (a : Lot) : sub a a := fun _ h => h
theorem sub_trans {a b c : Lot} (h : sub a b) (k : sub b c) : sub a c := fun x hx => k x (h x hx)
theorem asc_ext : ∀ {a b : Lot}, Asc a → Asc b → (∀ x, x ∈ a ↔ x ∈ b) → a = b
  | [], [], _, _, _ => rfl
  | [], b :: bs, _, _, h => absurd ((h b).2 List.mem_cons_self) List.not_mem_nil
  | a :: as, [], _, _, h => absurd ((h a).1 List.mem_cons_self) List.not_mem_nil
  | a :: as, b :: bs, ha, hb, h => by
    have ha' := List.pairwise_cons.mp ha
    have hb' := List.pairwise_cons.mp hb
    have e : a = b := by
      rcases List.mem_cons.mp ((h a).1 List.mem_cons_self) with e | e
      · exact e
      · rcases List.mem_cons.mp ((h b).2 List.mem_cons_self) with e' | e'
        · exact e'.symm
        · have := hb'.1 a e; have := ha'.1 b e'; omega
    subst e
    congr 1
    refine asc_ext ha'.2 hb'.2 fun x => ⟨fun hx => ?_, fun hx => ?_⟩
    · rcases List.mem_cons.mp ((h x).1 (List.mem_cons_of_mem _ hx)) with e | e
      · have := ha'.1 x hx; omega
      · exact e
    · rcases List.mem_cons.mp ((h x).2 (List.mem_cons_of_mem _ hx)) with e | e
      · have := hb'.1 x hx; omega
      · exact e
theorem sub_anti {a b : Lot} (ha : Asc a) (hb : Asc b) (h : sub a b) (k : sub b a) : a = b := asc_ext ha hb fun x => ⟨h x, k x⟩
theorem asc_nodup {a : Lot} (h : Asc a) : a.Nodup := h.imp fun h => by intro e; omega
theorem nodup_len {α : Type} [DecidableEq α] : ∀ {a b : List α}, a.Nodup → (∀ x ∈ a, x ∈ b) → a.length ≤ b.length
  | [], _, _, _ => Nat.zero_le _
  | x :: xs, b, hn, h => by
    have hn' := List.nodup_cons.mp hn
    have q := nodup_len (b := b.erase x) hn'.2 fun y hy => (List.mem_erase_of_ne (by intro e; exact hn'.1 (e ▸ hy))).mpr (h y (List.mem_cons_of_mem _ hy))
    have hx := h x List.mem_cons_self
    have := List.length_erase_of_mem hx
    have : 0 < b.length := List.length_pos_of_mem hx
    simp only [List.length_cons]; omega
/-- only what is in it counts; more is as good -/
def Up (P : Lot → Prop) : Prop := ∀ a b, sub a b → P a → P b
def Min (P : Lot → Prop) (t : Lot) : Prop := Asc t ∧ P t ∧ ∀ s, P s → sub s t → sub t s
theorem exists_min {P : Lot → Prop} (hP : Up P) : ∀ (n : Nat) (t : Lot), t.length = n → Asc t → P t → ∃ u, Min P u ∧ sub u t := by
  intro n
  induction n using Nat.strongRecOn with
  | _ n ih =>
    intro t hn ha hp
    by_cases h : ∀ s, P s → sub s t → sub t s
    · exact ⟨t, ⟨ha, hp, h⟩, sub_refl t⟩
    · have ⟨s, h⟩ := Classical.not_forall.mp h
      have ⟨h1, h⟩ := Classical.not_imp.mp h
      have ⟨h2, h3⟩ := Classical.not_imp.mp h
      have ⟨x, h⟩ := Classical.not_forall.mp h3
      have ⟨hx, hx'⟩ := Classical.not_imp.mp h
      have hlt : (t.filter fun y => s.contains y).length < n := by
        rw [← hn]
        refine Nat.lt_of_le_of_ne (List.length_filter_le _ _) fun e => hx' ?_
        have := (List.length_filter_eq_length_iff.mp e) x hx
        simpa using this
      obtain ⟨u, hu, hs⟩ := ih _ hlt (t.filter fun y => s.contains y) rfl (ha.filter _) (hP s _ (fun y hy => List.mem_filter.mpr ⟨h2 y hy, by simpa using hy⟩) h1)
      exact ⟨u, hu, fun y hy => (List.mem_filter.mp (hs y hy)).1⟩
theorem min_anti {P : Lot → Prop} {t u : Lot} (ht : Min P t) (hu : Min P u) (h : sub t u) : t = u := sub_anti ht.1 hu.1 h (hu.2.2 t ht.2.1 h)
theorem min_congr {P Q : Lot → Prop} (h : ∀ t, P t ↔ Q t) (t : Lot) : Min P t ↔ Min Q t := by
  have : P = Q := funext fun t => propext (h t)
  rw [this]
def insA (x : Int) : Lot → Lot
  | [] => [x]
  | y :: ys => if x < y then x :: y :: ys else y :: insA x ys
theorem mem_insA {x z : Int} : ∀ {t : Lot}, z ∈ insA x t ↔ z = x ∨ z ∈ t
  | [] => by simp [insA]
  | y :: ys => by
    unfold insA
    split
    · simp
    · simp only [List.mem_cons, mem_insA (t := ys)]
      constructor
      · rintro (h | h | h)
        · exact .inr (.inl h)
        · exact .inl h
        · exact .inr (.inr h)
      · rintro (h | h | h)
        · exact .inr (.inl h)
        · exact .inl h
        · exact .inr (.inr h)
theorem asc_insA {x : Int} : ∀ {t : Lot}, Asc t → x ∉ t → Asc (insA x t)
  | [], _, _ => List.pairwise_singleton _ _
  | y :: ys, h, hx => by
    have h' := List.pairwise_cons.mp h
    have n1 : x ≠ y := fun e => hx (e ▸ List.mem_cons_self)
    unfold insA
    split
    · rename_i hlt
      exact List.pairwise_cons.mpr ⟨fun z hz => by
        rcases List.mem_cons.mp hz with e | e
        · omega
        · have := h'.1 z e; omega, h⟩
    · refine List.pairwise_cons.mpr ⟨fun z hz => ?_, asc_insA h'.2 fun e => hx (List.mem_cons_of_mem _ e)⟩
      rcases mem_insA.mp hz with e | e
      · omega
      · exact h'.1 z e
/-- Berge's step -/
def step (found : List Lot) (lot : Lot) : List Lot :=
  found.filter (meetB · lot) ++ (found.filter fun t => !meetB t lot).flatMap fun t => (lot.map (insA · t)).filter fun n => !(found.filter (meetB · lot)).any (subB · n)
structure All (P : Lot → Prop) (F : List Lot) : Prop where
  nodup : F.Nodup
  mem : ∀ t, t ∈ F ↔ Min P t
def And1 (P : Lot → Prop) (lot : Lot) (t : Lot) : Prop := P t ∧ meet t lot
theorem up_meet (lot : Lot) : Up fun t => meet t lot := fun a b h ⟨x, hx, hl⟩ => ⟨x, h x hx, hl⟩
theorem up_and1 {P : Lot → Prop} (h : Up P) (lot : Lot) : Up (And1 P lot) := fun a b hs ⟨h1, h2⟩ => ⟨h a b hs h1, up_meet lot a b hs h2⟩
theorem mem_step {found : List Lot} {lot n : Lot} : n ∈ step found lot ↔ (n ∈ found ∧ meet n lot) ∨ ∃ t ∈ found, ¬ meet t lot ∧ (∃ x ∈ lot, insA x t = n) ∧ ∀ k ∈ found, meet k lot → ¬ sub k n := by
  unfold step
  rw [List.mem_append, List.mem_filter, meetB_iff, List.mem_flatMap]
  refine or_congr Iff.rfl ⟨?_, ?_⟩
  · rintro ⟨t, ht, hn⟩
    have ⟨h1, h2⟩ := List.mem_filter.mp ht
    have ⟨h3, h4⟩ := List.mem_filter.mp hn
    refine ⟨t, h1, fun hm => ?_, List.mem_map.mp h3, fun k hk hm hs => ?_⟩
    · rw [meetB_iff.mpr hm] at h2; exact absurd h2 (by decide)
    · have : ((found.filter (meetB · lot)).any (subB · n)) = true := List.any_eq_true.mpr ⟨k, List.mem_filter.mpr ⟨hk, meetB_iff.mpr hm⟩, subB_iff.mpr hs⟩
      rw [this] at h4; exact absurd h4 (by decide)
  · rintro ⟨t, h1, h2, h3, h4⟩
    refine ⟨t, List.mem_filter.mpr ⟨h1, ?_⟩, List.mem_filter.mpr ⟨List.mem_map.mpr h3, ?_⟩⟩
    · cases hb : meetB t lot with
      | false => rfl
      | true => exact absurd (meetB_iff.mp hb) h2
    · cases hb : (found.filter (meetB · lot)).any (subB · n) with
      | false => rfl
      | true =>
        obtain ⟨k, hk, hs⟩ := List.any_eq_true.mp hb
        have ⟨h5, h6⟩ := List.mem_filter.mp hk
        exact absurd (subB_iff.mp hs) (h4 k h5 (meetB_iff.mp h6))
theorem step_mem {P : Lot → Prop} {F : List Lot} (hP : Up P) (hF : All P F) (lot n : Lot) : n ∈ step F lot ↔ Min (And1 P lot) n := by
  rw [mem_step]
  constructor
  · rintro (⟨h1, h2⟩ | ⟨t, ht, hm, ⟨x, hx, rfl⟩, hk⟩)
    · have q := (hF.mem n).mp h1
      exact ⟨q.1, ⟨q.2.1, h2⟩, fun s hs => q.2.2 s hs.1⟩
    · have q := (hF.mem t).mp ht
      have hxt : x ∉ t := fun e => hm ⟨x, e, hx⟩
      refine ⟨asc_insA q.1 hxt, ⟨hP t _ (fun y hy => mem_insA.mpr (.inr hy)) q.2.1, ⟨x, mem_insA.mpr (.inl rfl), hx⟩⟩, fun s ⟨hs1, y, hy, hyl⟩ hs => ?_⟩
      have hyx : y = x := by
        rcases mem_insA.mp (hs y hy) with e | e
        · exact e
        · exact absurd ⟨y, e, hyl⟩ hm
      have hxs : x ∈ s := hyx ▸ hy
      -- what s has of t
      have hs' : P (t.filter fun z => s.contains z) ∨ ¬ P (t.filter fun z => s.contains z) := Classical.em _
      rcases hs' with hs' | hs'
      · have w := q.2.2 _ hs' fun z hz => (List.mem_filter.mp hz).1
        intro z hz
        rcases mem_insA.mp hz with e | e
        · exact e ▸ hxs
        · simpa using (List.mem_filter.mp (w z e)).2
      · have hp : P ((insA x t).filter fun z => s.contains z) := hP s _ (fun z hz => List.mem_filter.mpr ⟨hs z hz, by simpa using hz⟩) hs1
        obtain ⟨u, hu, hus⟩ := exists_min hP _ _ rfl ((asc_insA q.1 hxt).filter _) hp
        have hxu : x ∈ u := Classical.byContradiction fun hxu => hs' (hP u _ (fun z hz => by
          have ⟨h5, h6⟩ := List.mem_filter.mp (hus z hz)
          rcases mem_insA.mp h5 with e | e
          · exact absurd (e ▸ hz) hxu
          · exact List.mem_filter.mpr ⟨e, h6⟩) hu.2.1)
        exact absurd (fun z hz => (List.mem_filter.mp (hus z hz)).1) (hk u ((hF.mem u).mpr hu) ⟨x, hxu, hx⟩)
  · rintro ⟨ha, ⟨hp, x, hx, hxl⟩, hmin⟩
    obtain ⟨u, hu, hun⟩ := exists_min hP _ n rfl ha hp
    by_cases hm : meet u lot
    · have : u = n := sub_anti hu.1 ha hun (hmin u ⟨hu.2.1, hm⟩ hun)
      exact .inl ⟨(hF.mem n).mpr (this ▸ hu), x, hx, hxl⟩
    · have hxu : x ∉ u := fun e => hm ⟨x, e, hxl⟩
      have hsub : sub (insA x u) n := fun z hz => by
        rcases mem_insA.mp hz with e | e
        · exact e ▸ hx
        · exact hun z e
      have e : insA x u = n := sub_anti (asc_insA hu.1 hxu) ha hsub (hmin _ ⟨hP u _ (fun y hy => mem_insA.mpr (.inr hy)) hu.2.1, x, mem_insA.mpr (.inl rfl), hxl⟩ hsub)
      refine .inr ⟨u, (hF.mem u).mpr hu, hm, ⟨x, hxl, e⟩, fun k hk hkm hkn => ?_⟩
      have qk := (hF.mem k).mp hk
      have h1 : sub n k := hmin k ⟨qk.2.1, hkm⟩ hkn
      have h2 : u = k := min_anti hu qk (sub_trans hun h1)
      exact hm (h2 ▸ hkm)
end Cr
end
section
set_option linter.all false
set_option autoImplicit false
set_option maxRecDepth 100000
namespace Cr
theorem nodup_of_inj {α β : Type} {f : α → β} : ∀ {l : List α}, (∀ a ∈ l, ∀ b ∈ l, f a = f b → a = b) → l.Nodup → (l.map f).Nodup
  | [], _, _ => List.nodup_nil
  | a :: l, h, hn => by
    have hn' := List.nodup_cons.mp hn
    rw [List.map_cons]
    refine List.nodup_cons.mpr ⟨fun hm => ?_, nodup_of_inj (fun a ha b hb => h a (List.mem_cons_of_mem _ ha) b (List.mem_cons_of_mem _ hb)) hn'.2⟩
    obtain ⟨b, hb, e⟩ := List.mem_map.mp hm
    exact hn'.1 (h b (List.mem_cons_of_mem _ hb) a List.mem_cons_self e ▸ hb)
theorem step_nodup {P : Lot → Prop} {F : List Lot} (hF : All P F) {lot : Lot} (hl : Asc lot) : (step F lot).Nodup := by
  unfold step
  have key : ∀ t ∈ F, ∀ x ∈ lot, ∀ u ∈ F, ∀ y ∈ lot, ¬ meet t lot → ¬ meet u lot → insA x t = insA y u → x = y ∧ sub t u := by
    intro t _ x hx u _ y hy ht hu e
    have e1 : x = y := by
      have : x ∈ insA y u := e ▸ mem_insA.mpr (.inl rfl)
      rcases mem_insA.mp this with e | e
      · exact e
      · exact absurd ⟨x, e, hx⟩ hu
    refine ⟨e1, fun z hz => ?_⟩
    have : z ∈ insA y u := e ▸ mem_insA.mpr (.inr hz)
    rcases mem_insA.mp this with e | e
    · exact absurd ⟨z, hz, e ▸ hy⟩ ht
    · exact e
  have nm : ∀ t, t ∈ (F.filter fun t => !meetB t lot) → t ∈ F ∧ ¬ meet t lot := fun t ht => by
    have ⟨h1, h2⟩ := List.mem_filter.mp ht
    refine ⟨h1, fun hm => ?_⟩
    rw [meetB_iff.mpr hm] at h2; exact absurd h2 (by decide)
  refine List.nodup_append.mpr ⟨hF.nodup.filter _, ?_, ?_⟩
  · refine List.pairwise_flatMap.mpr ⟨fun t ht => ?_, ?_⟩
    · refine List.Pairwise.filter _ (nodup_of_inj (fun a ha b hb e => ?_) (asc_nodup hl))
      have ⟨h1, h2⟩ := nm t ht
      exact (key t h1 a ha t h1 b hb h2 h2 e).1
    · refine List.Pairwise.imp_of_mem ?_ (List.Pairwise.filter (fun t => !meetB t lot) hF.nodup)
      intro t u ht hu hne n hn m hm e
      subst e
      have ⟨h1, h2⟩ := nm t ht
      have ⟨h3, h4⟩ := nm u hu
      obtain ⟨x, hx, ex⟩ := List.mem_map.mp (List.mem_filter.mp hn).1
      obtain ⟨y, hy, ey⟩ := List.mem_map.mp (List.mem_filter.mp hm).1
      exact hne (sub_anti ((hF.mem t).mp h1).1 ((hF.mem u).mp h3).1 (key t h1 x hx u h3 y hy h2 h4 (ex.trans ey.symm)).2 (key u h3 y hy t h1 x hx h4 h2 (ey.trans ex.symm)).2)
  · intro k hk n hn e
    subst e
    obtain ⟨t, _, hn⟩ := List.mem_flatMap.mp hn
    have h2 := (List.mem_filter.mp hn).2
    have : ((F.filter (meetB · lot)).any (subB · k)) = true := List.any_eq_true.mpr ⟨k, hk, subB_iff.mpr (sub_refl k)⟩
    rw [this] at h2; exact absurd h2 (by decide)
theorem step_all {P : Lot → Prop} {F : List Lot} (hP : Up P) (hF : All P F) {lot : Lot} (hl : Asc lot) : All (And1 P lot) (step F lot) := ⟨step_nodup hF hl, step_mem hP hF lot⟩
def Hits (L : List Lot) (t : Lot) : Prop := ∀ l ∈ L, meet t l
theorem up_hits (L : List Lot) : Up (Hits L) := fun a b h k l hl => up_meet l a b h (k l hl)
theorem all_nil : All (Hits []) [[]] := ⟨by simp, fun t => by
  constructor
  · intro h
    have : t = [] := by simpa using h
    subst this
    exact ⟨List.Pairwise.nil, fun _ h => absurd h List.not_mem_nil, fun s _ _ x hx => absurd hx List.not_mem_nil⟩
  · rintro ⟨_, _, h⟩
    have := h [] (fun _ h => absurd h List.not_mem_nil) fun _ h => absurd h List.not_mem_nil
    cases t with
    | nil => simp
    | cons x xs => exact absurd (this x List.mem_cons_self) List.not_mem_nil⟩
theorem all_congr {P Q : Lot → Prop} {F : List Lot} (h : ∀ t, P t ↔ Q t) (hF : All P F) : All Q F := ⟨hF.nodup, fun t => (hF.mem t).trans (min_congr h t)⟩
theorem step_hits {L : List Lot} {F : List Lot} {lot : Lot} (hF : All (Hits L) F) (hl : Asc lot) : All (Hits (L ++ [lot])) (step F lot) := by
  refine all_congr (fun t => ?_) (step_all (up_hits L) hF hl)
  simp [And1, Hits, or_imp, forall_and]
/-- chains -/
def chTab : List Nat := [0, 0, 1, 0, 2, 2, 1, 0, 3, 3, 4, 3, 5, 2, 1, 0, 6, 6, 7, 6, 8, 8, 7, 6, 9, 9, 4, 3, 5, 2, 1, 0, 10, 10, 11, 10, 12, 12, 11, 10, 13, 13, 14, 13, 15, 12, 11, 10, 16, 16, 17, 16, 18, 8, 7, 6, 19, 9, 4, 3, 5, 2, 1, 0]
def bn (b : Bool) (n : Nat) : Nat := if b then n else 0
def chB (a b c d e f : Bool) : Nat := chTab.getD (bn a 1 + bn b 2 + bn c 4 + bn d 8 + bn e 16 + bn f 32) 0
theorem chB_lt : ∀ a b c d e f : Bool, chB a b c d e f < 20 := by decide +kernel
def im (a b : Bool) : Bool := !a || b
theorem chB_comp : ∀ a b c d e f a' b' c' d' e' f' : Bool, chB a b c d e f = chB a' b' c' d' e' f' →
    (im a a' && im b b' && im c c' && im d d' && im e e' && im f f') = true ∨ (im a' a && im b' b && im c' c && im d' d && im e' e && im f' f) = true := by decide +kernel
def chain (o : Int) (t : Lot) : Nat := chB (t.contains o) (t.contains (o + 1)) (t.contains (o + 2)) (t.contains (o + 3)) (t.contains (o + 4)) (t.contains (o + 5))
theorem chain_lt (o : Int) (t : Lot) : chain o t < 20 := chB_lt ..
theorem sub_of_im {o : Int} {t u : Lot} (ht : ∀ x ∈ t, o ≤ x ∧ x < o + 6)
    (h : (im (t.contains o) (u.contains o) && im (t.contains (o + 1)) (u.contains (o + 1)) && im (t.contains (o + 2)) (u.contains (o + 2)) && im (t.contains (o + 3)) (u.contains (o + 3)) && im (t.contains (o + 4)) (u.contains (o + 4)) && im (t.contains (o + 5)) (u.contains (o + 5))) = true) : sub t u := by
  intro x hx
  have ⟨h1, h2⟩ := ht x hx
  simp only [Bool.and_eq_true, im] at h
  obtain ⟨⟨⟨⟨⟨a, b⟩, c⟩, d⟩, e⟩, f⟩ := h
  have hc : t.contains x = true := by simpa using hx
  have : x = o ∨ x = o + 1 ∨ x = o + 2 ∨ x = o + 3 ∨ x = o + 4 ∨ x = o + 5 := by omega
  rcases this with e' | e' | e' | e' | e' | e' <;> subst e' <;> simp_all
theorem chain_comp {o : Int} {t u : Lot} (ht : ∀ x ∈ t, o ≤ x ∧ x < o + 6) (hu : ∀ x ∈ u, o ≤ x ∧ x < o + 6) (h : chain o t = chain o u) : sub t u ∨ sub u t := by
  rcases chB_comp _ _ _ _ _ _ _ _ _ _ _ _ h with h | h
  · exact .inl (sub_of_im ht h)
  · exact .inr (sub_of_im hu h)
theorem len_le {α : Type} {F : List α} {n : Nat} (f : α → Nat) (h : ∀ t ∈ F, f t < n) (hi : ∀ a ∈ F, ∀ b ∈ F, f a = f b → a = b) (hn : F.Nodup) : F.length ≤ n := by
  have := nodup_len (b := List.range n) (nodup_of_inj hi hn) fun x hx => by
    obtain ⟨t, ht, rfl⟩ := List.mem_map.mp hx
    exact List.mem_range.mpr (h t ht)
  simpa using this
theorem len20 {F : List Lot} (o : Int) (hr : ∀ t ∈ F, ∀ x ∈ t, o ≤ x ∧ x < o + 6) (ha : ∀ t ∈ F, Asc t) (hanti : ∀ t ∈ F, ∀ u ∈ F, sub t u → t = u) (hn : F.Nodup) : F.length ≤ 20 :=
  len_le (chain o) (fun t _ => chain_lt o t) (fun t ht u hu e => by
    rcases chain_comp (hr t ht) (hr u hu) e with h | h
    · exact hanti t ht u hu h
    · exact (hanti u hu t ht h).symm) hn
end Cr
end
section
set_option linter.all false
set_option autoImplicit false
set_option maxRecDepth 100000
namespace Cr
theorem min_in {L : List Lot} {t : Lot} (h : Min (Hits L) t) : ∀ x ∈ t, ∃ l ∈ L, x ∈ l := by
  intro x hx
  have q := h.2.2 (t.filter fun x => L.any fun l => l.contains x) (fun l hl => by
    obtain ⟨y, hy, hyl⟩ := h.2.1 l hl
    exact ⟨y, List.mem_filter.mpr ⟨hy, List.any_eq_true.mpr ⟨l, hl, by simpa using hyl⟩⟩, hyl⟩) (fun y hy => (List.mem_filter.mp hy).1) x hx
  obtain ⟨l, hl, hc⟩ := List.any_eq_true.mp (List.mem_filter.mp q).2
  exact ⟨l, hl, by simpa using hc⟩
def Own (L : List Lot) (t : Lot) (x : Int) : Prop := ∃ l ∈ L, x ∈ l ∧ ∀ y ∈ t, y ≠ x → y ∉ l
theorem min_iff {L : List Lot} {t : Lot} : Min (Hits L) t ↔ Asc t ∧ Hits L t ∧ ∀ x ∈ t, Own L t x := by
  constructor
  · rintro ⟨ha, hh, hm⟩
    refine ⟨ha, hh, fun x hx => Classical.byContradiction fun hno => ?_⟩
    have q := hm (t.filter fun y => decide (y ≠ x)) (fun l hl => Classical.byContradiction fun hnm => hno ⟨l, hl, ?_, fun y hy hne hyl => hnm ⟨y, List.mem_filter.mpr ⟨hy, decide_eq_true hne⟩, hyl⟩⟩) (fun y hy => (List.mem_filter.mp hy).1) x hx
    · exact of_decide_eq_true (List.mem_filter.mp q).2 rfl
    · obtain ⟨y, hy, hyl⟩ := hh l hl
      by_cases e : y = x
      · exact e ▸ hyl
      · exact absurd ⟨y, List.mem_filter.mpr ⟨hy, decide_eq_true e⟩, hyl⟩ hnm
  · rintro ⟨ha, hh, ho⟩
    refine ⟨ha, hh, fun s hs hsub x hx => ?_⟩
    obtain ⟨l, hl, _, hy⟩ := ho x hx
    obtain ⟨y, hys, hyl⟩ := hs l hl
    by_cases e : y = x
    · exact e ▸ hys
    · exact absurd hyl (hy y (hsub y hys) e)
/-- an ascending lot of given members -/
def norm : List Int → Lot
  | [] => []
  | x :: l => if x ∈ norm l then norm l else insA x (norm l)
theorem norm_asc : ∀ l, Asc (norm l)
  | [] => List.Pairwise.nil
  | x :: l => by
    unfold norm
    split
    · exact norm_asc l
    · rename_i h; exact asc_insA (norm_asc l) h
theorem mem_norm {z : Int} : ∀ {l}, z ∈ norm l ↔ z ∈ l
  | [] => Iff.rfl
  | x :: l => by
    unfold norm
    split
    · rename_i h
      rw [mem_norm, List.mem_cons]
      exact ⟨.inr, fun h' => h'.elim (fun e => e ▸ mem_norm.mp h) id⟩
    · rw [mem_insA, mem_norm, List.mem_cons]
/-- what a family holds above -/
def Over (L : List Lot) (s : Lot) : Prop := ∃ l ∈ L, sub l s
theorem dual {L D : List Lot} (hD : ∀ t, t ∈ D ↔ Min (Hits L) t) (s : Lot) : Hits D s ↔ Over L s := by
  constructor
  · intro h
    refine Classical.byContradiction fun hno => ?_
    have hh : Hits L (norm (L.flatten.filter fun x => !s.contains x)) := fun l hl => by
      have : ¬ sub l s := fun e => hno ⟨l, hl, e⟩
      have ⟨x, hx⟩ := Classical.not_forall.mp this
      have ⟨h1, h2⟩ := Classical.not_imp.mp hx
      exact ⟨x, mem_norm.mpr (List.mem_filter.mpr ⟨List.mem_flatten.mpr ⟨l, hl, h1⟩, by simpa using h2⟩), h1⟩
    obtain ⟨u, hu, hs⟩ := exists_min (up_hits L) _ _ rfl (norm_asc _) hh
    obtain ⟨x, hx, hxu⟩ := h u ((hD u).mpr hu)
    have := (List.mem_filter.mp (mem_norm.mp (hs x hxu))).2
    simp [hx] at this
  · rintro ⟨l, hl, hs⟩ t ht
    obtain ⟨x, hx, hxl⟩ := ((hD t).mp ht).2.1 l hl
    exact ⟨x, hs x hxl, hx⟩
theorem min_over {L : List Lot} (hL : ∀ l ∈ L, Asc l) (m : Lot) : Min (Over L) m ↔ m ∈ L ∧ ∀ l ∈ L, sub l m → l = m := by
  constructor
  · rintro ⟨ha, ⟨l, hl, hs⟩, hm⟩
    have e : l = m := sub_anti (hL l hl) ha hs (hm l ⟨l, hl, sub_refl l⟩ hs)
    subst e
    exact ⟨hl, fun k hk hks => sub_anti (hL k hk) ha hks (hm k ⟨k, hk, sub_refl k⟩ hks)⟩
  · rintro ⟨hm, h⟩
    refine ⟨hL m hm, ⟨m, hm, sub_refl m⟩, fun s ⟨l, hl, hs⟩ hsm => ?_⟩
    have e := h l hl (sub_trans hs hsm)
    exact e ▸ hs
/-- supersets add nothing; families with the same least -/
theorem hits_mono {L K : List Lot} (h : ∀ l ∈ L, ∃ k ∈ K, sub k l) {t : Lot} (hk : Hits K t) : Hits L t := fun l hl => by
  obtain ⟨k, hk', hs⟩ := h l hl
  obtain ⟨x, hx, hxk⟩ := hk k hk'
  exact ⟨x, hx, hs x hxk⟩
/-- crossing of both: over the joins -/
theorem hits_both {L O D T : List Lot} (hD : ∀ t, t ∈ D ↔ Min (Hits L) t) (hT : ∀ t, t ∈ T ↔ Min (Hits O) t) {M : List Lot} (hM : ∀ m, m ∈ M ↔ ∃ a ∈ D, ∃ b ∈ T, m = norm (a ++ b)) {s : Lot} (hs : Asc s) : Hits (L ++ O) s ↔ Over M s := by
  constructor
  · intro h
    obtain ⟨a, ha, h1⟩ := exists_min (up_hits L) _ s rfl hs fun l hl => h l (List.mem_append_left _ hl)
    obtain ⟨b, hb, h2⟩ := exists_min (up_hits O) _ s rfl hs fun l hl => h l (List.mem_append_right _ hl)
    refine ⟨norm (a ++ b), (hM _).mpr ⟨a, (hD a).mpr ha, b, (hT b).mpr hb, rfl⟩, fun x hx => ?_⟩
    rcases List.mem_append.mp (mem_norm.mp hx) with e | e
    · exact h1 x e
    · exact h2 x e
  · rintro ⟨m, hm, hsub⟩
    obtain ⟨a, ha, b, hb, rfl⟩ := (hM m).mp hm
    intro l hl
    rcases List.mem_append.mp hl with e | e
    · exact up_hits L a s (fun x hx => hsub x (mem_norm.mpr (List.mem_append_left _ hx))) ((hD a).mp ha).2.1 l e
    · exact up_hits O b s (fun x hx => hsub x (mem_norm.mpr (List.mem_append_right _ hx))) ((hT b).mp hb).2.1 l e
theorem over_up (M : List Lot) : Up (Over M) := fun a b h ⟨m, hm, hs⟩ => ⟨m, hm, sub_trans hs h⟩
/-- laws over members alone: ascending ones are enough -/
theorem up_ext {P Q : Lot → Prop} (hP : Up P) (hQ : Up Q) (h : ∀ s, Asc s → (P s ↔ Q s)) (s : Lot) : P s ↔ Q s := by
  have e1 : P s ↔ P (norm s) := ⟨hP _ _ fun x hx => mem_norm.mpr hx, hP _ _ fun x hx => mem_norm.mp hx⟩
  have e2 : Q s ↔ Q (norm s) := ⟨hQ _ _ fun x hx => mem_norm.mpr hx, hQ _ _ fun x hx => mem_norm.mp hx⟩
  rw [e1, e2]; exact h _ (norm_asc s)
theorem min_both {L O D T : List Lot} (hD : ∀ t, t ∈ D ↔ Min (Hits L) t) (hT : ∀ t, t ∈ T ↔ Min (Hits O) t) {M : List Lot} (hM : ∀ m, m ∈ M ↔ ∃ a ∈ D, ∃ b ∈ T, m = norm (a ++ b)) (m : Lot) :
    Min (Hits (L ++ O)) m ↔ m ∈ M ∧ ∀ l ∈ M, sub l m → l = m := by
  rw [min_congr (up_ext (up_hits _) (over_up M) fun s hs => hits_both hD hT hM hs) m]
  refine min_over (fun l hl => ?_) m
  obtain ⟨a, _, b, _, rfl⟩ := (hM l).mp hl
  exact norm_asc _
/-- low and high -/
def lo (m : Int) (t : Lot) : Lot := t.filter fun x => decide (x < m)
def hi (m : Int) (t : Lot) : Lot := t.filter fun x => decide (m ≤ x)
theorem mem_lo {m : Int} {t : Lot} {x : Int} : x ∈ lo m t ↔ x ∈ t ∧ x < m := by simp [lo]
theorem mem_hi {m : Int} {t : Lot} {x : Int} : x ∈ hi m t ↔ x ∈ t ∧ m ≤ x := by simp [hi]
theorem asc_split {m : Int} : ∀ {t : Lot}, Asc t → lo m t ++ hi m t = t
  | [], _ => rfl
  | x :: xs, h => by
    have h' := List.pairwise_cons.mp h
    have q := asc_split (m := m) h'.2
    by_cases hx : x < m
    · rw [lo, hi, List.filter_cons_of_pos (by simpa using hx), List.filter_cons_of_neg (by simp; omega)]
      exact congrArg (x :: ·) q
    · have e : lo m xs = [] := List.filter_eq_nil_iff.mpr fun y hy => by have := h'.1 y hy; simp; omega
      rw [e] at q
      rw [lo, hi, List.filter_cons_of_neg (by simpa using hx), List.filter_cons_of_pos (by simp; omega)]
      rw [show xs.filter (fun x => decide (x < m)) = [] from e]
      exact congrArg (x :: ·) q
theorem min_split {m : Int} {A B L : List Lot} (hA : ∀ l ∈ A, ∀ x ∈ l, x < m) (hB : ∀ l ∈ B, ∀ x ∈ l, m ≤ x) (hL : ∀ t, Hits L t ↔ Hits A t ∧ Hits B t) {t : Lot} :
    Min (Hits L) t ↔ Asc t ∧ Min (Hits A) (lo m t) ∧ Min (Hits B) (hi m t) := by
  have eA : ∀ s, Hits A s ↔ Hits A (lo m s) := fun s => ⟨fun h l hl => by
    obtain ⟨x, hx, hxl⟩ := h l hl
    exact ⟨x, mem_lo.mpr ⟨hx, hA l hl x hxl⟩, hxl⟩, up_hits A _ _ fun x hx => (mem_lo.mp hx).1⟩
  have eB : ∀ s, Hits B s ↔ Hits B (hi m s) := fun s => ⟨fun h l hl => by
    obtain ⟨x, hx, hxl⟩ := h l hl
    exact ⟨x, mem_hi.mpr ⟨hx, hB l hl x hxl⟩, hxl⟩, up_hits B _ _ fun x hx => (mem_hi.mp hx).1⟩
  constructor
  · rintro ⟨ha, hh, hm⟩
    have ⟨h1, h2⟩ := (hL t).mp hh
    refine ⟨ha, ⟨ha.filter _, (eA t).mp h1, fun s hs hsub x hx => ?_⟩, ⟨ha.filter _, (eB t).mp h2, fun s hs hsub x hx => ?_⟩⟩
    · have q := hm (s ++ hi m t) ((hL _).mpr ⟨up_hits A _ _ (fun x hx => List.mem_append_left _ hx) hs, up_hits B _ _ (fun x hx => List.mem_append_right _ hx) ((eB t).mp h2)⟩) (fun y hy => by
        rcases List.mem_append.mp hy with e | e
        · exact (mem_lo.mp (hsub y e)).1
        · exact (mem_hi.mp e).1) x (mem_lo.mp hx).1
      rcases List.mem_append.mp q with e | e
      · exact e
      · have := (mem_hi.mp e).2; have := (mem_lo.mp hx).2; omega
    · have q := hm (lo m t ++ s) ((hL _).mpr ⟨up_hits A _ _ (fun x hx => List.mem_append_left _ hx) ((eA t).mp h1), up_hits B _ _ (fun x hx => List.mem_append_right _ hx) hs⟩) (fun y hy => by
        rcases List.mem_append.mp hy with e | e
        · exact (mem_lo.mp e).1
        · exact (mem_hi.mp (hsub y e)).1) x (mem_hi.mp hx).1
      rcases List.mem_append.mp q with e | e
      · have := (mem_lo.mp e).2; have := (mem_hi.mp hx).2; omega
      · exact e
  · rintro ⟨ha, h1, h2⟩
    refine ⟨ha, (hL t).mpr ⟨(eA t).mpr h1.2.1, (eB t).mpr h2.2.1⟩, fun s hs hsub x hx => ?_⟩
    have ⟨k1, k2⟩ := (hL s).mp hs
    by_cases hxm : x < m
    · exact (mem_lo.mp (h1.2.2 (lo m s) ((eA s).mp k1) (fun y hy => mem_lo.mpr ⟨hsub y (mem_lo.mp hy).1, (mem_lo.mp hy).2⟩) x (mem_lo.mpr ⟨hx, hxm⟩))).1
    · exact (mem_hi.mp (h2.2.2 (hi m s) ((eB s).mp k2) (fun y hy => mem_hi.mpr ⟨hsub y (mem_hi.mp hy).1, (mem_hi.mp hy).2⟩) x (mem_hi.mpr ⟨hx, by omega⟩))).1
/-- never too many -/
theorem len400 {m : Int} (hm : m ≤ 6) {L F : List Lot} (hL : ∀ l ∈ L, (∀ x ∈ l, 0 ≤ x ∧ x < m) ∨ ∀ x ∈ l, m ≤ x ∧ x < 2 * m) (hF : All (Hits L) F) : F.length ≤ 400 := by
  let A := L.filter fun l => l.all fun x => decide (x < m)
  let B := L.filter fun l => l.all fun x => decide (m ≤ x)
  have hA : ∀ l ∈ A, ∀ x ∈ l, x < m := fun l hl x hx => by simpa using List.all_eq_true.mp (List.mem_filter.mp hl).2 x hx
  have hB : ∀ l ∈ B, ∀ x ∈ l, m ≤ x := fun l hl x hx => by simpa using List.all_eq_true.mp (List.mem_filter.mp hl).2 x hx
  have hAB : ∀ t, Hits L t ↔ Hits A t ∧ Hits B t := fun t => ⟨fun h => ⟨fun l hl => h l (List.mem_filter.mp hl).1, fun l hl => h l (List.mem_filter.mp hl).1⟩, fun ⟨h1, h2⟩ l hl => by
    rcases hL l hl with h | h
    · exact h1 l (List.mem_filter.mpr ⟨hl, List.all_eq_true.mpr fun x hx => by simpa using (h x hx).2⟩)
    · exact h2 l (List.mem_filter.mpr ⟨hl, List.all_eq_true.mpr fun x hx => by simpa using (h x hx).1⟩)⟩
  have sp := fun t (ht : t ∈ F) => (min_split hA hB hAB).mp ((hF.mem t).mp ht)
  have r := fun t (ht : t ∈ F) => min_in ((hF.mem t).mp ht)
  have rl : ∀ t ∈ F, ∀ x ∈ lo m t, (0 : Int) ≤ x ∧ x < 0 + 6 := fun t ht x hx => by
    have ⟨h1, h2⟩ := mem_lo.mp hx
    obtain ⟨l, hl, hxl⟩ := r t ht x h1
    rcases hL l hl with h | h
    · have := h x hxl; omega
    · have := h x hxl; omega
  have rh : ∀ t ∈ F, ∀ x ∈ hi m t, m ≤ x ∧ x < m + 6 := fun t ht x hx => by
    have ⟨h1, h2⟩ := mem_hi.mp hx
    obtain ⟨l, hl, hxl⟩ := r t ht x h1
    rcases hL l hl with h | h
    · have := h x hxl; omega
    · have := h x hxl; omega
  refine len_le (fun t => chain 0 (lo m t) * 20 + chain m (hi m t)) (fun t _ => by have := chain_lt 0 (lo m t); have := chain_lt m (hi m t); omega) (fun t ht u hu e => ?_) hF.nodup
  have e1 : chain 0 (lo m t) = chain 0 (lo m u) := by
    have := chain_lt m (hi m t); have := chain_lt m (hi m u)
    omega
  have e2 : chain m (hi m t) = chain m (hi m u) := by omega
  have ⟨a1, a2, a3⟩ := sp t ht
  have ⟨b1, b2, b3⟩ := sp u hu
  have q1 : lo m t = lo m u := by
    rcases chain_comp (rl t ht) (rl u hu) e1 with h | h
    · exact min_anti a2 b2 h
    · exact (min_anti b2 a2 h).symm
  have q2 : hi m t = hi m u := by
    rcases chain_comp (rh t ht) (rh u hu) e2 with h | h
    · exact min_anti a3 b3 h
    · exact (min_anti b3 a3 h).symm
  rw [← asc_split (m := m) a1, ← asc_split (m := m) b1, q1, q2]
/-- each of its own: no longer than the family -/
theorem len_own {L K : List Lot} (hK : ∀ l ∈ L, ∃ k ∈ K, sub k l) (hKL : ∀ k ∈ K, k ∈ L) {t : Lot} (ht : Min (Hits L) t) : t.length ≤ K.length := by
  have hc : ∀ x, Hits L x ↔ Hits K x := fun x => ⟨fun h k hk => h k (hKL k hk), hits_mono hK⟩
  have ⟨ha, _, ho⟩ := min_iff.mp ((min_congr hc t).mp ht)
  have hn := asc_nodup ha
  -- choose
  have : ∀ s : Lot, (∀ x ∈ s, x ∈ t) → s.Nodup → ∃ ks : List Lot, ks.length = s.length ∧ ks.Nodup ∧ (∀ k ∈ ks, k ∈ K) ∧ ∀ k ∈ ks, ∃ x ∈ s, x ∈ k ∧ ∀ y ∈ t, y ≠ x → y ∉ k := by
    intro s
    induction s with
    | nil => exact fun _ _ => ⟨[], rfl, List.nodup_nil, fun _ h => absurd h List.not_mem_nil, fun _ h => absurd h List.not_mem_nil⟩
    | cons x s ih =>
      intro hs hn
      have hn' := List.nodup_cons.mp hn
      obtain ⟨ks, h1, h2, h3, h4⟩ := ih (fun y hy => hs y (List.mem_cons_of_mem _ hy)) hn'.2
      obtain ⟨l, hl, hx, hy⟩ := ho x (hs x List.mem_cons_self)
      refine ⟨l :: ks, by simp [h1], List.nodup_cons.mpr ⟨fun hm => ?_, h2⟩, fun k hk => ?_, fun k hk => ?_⟩
      · obtain ⟨z, hz, hzl, _⟩ := h4 l hm
        by_cases e : z = x
        · exact hn'.1 (e ▸ hz)
        · exact hy z (hs z (List.mem_cons_of_mem _ hz)) e hzl
      · rcases List.mem_cons.mp hk with e | e
        · exact e ▸ hl
        · exact h3 k e
      · rcases List.mem_cons.mp hk with e | e
        · exact ⟨x, List.mem_cons_self, e ▸ hx, e ▸ hy⟩
        · obtain ⟨z, hz, h⟩ := h4 k e
          exact ⟨z, List.mem_cons_of_mem _ hz, h⟩
  obtain ⟨ks, h1, h2, h3, _⟩ := this t (fun _ h => h) hn
  rw [← h1]
  exact nodup_len h2 h3
end Cr
end
section
set_option linter.all false
set_option autoImplicit false
set_option maxRecDepth 100000
/-! Lots apart, lots moved: plain. -/
namespace Cr
/-- lots no two of which meet -/
def Apart (one : List Lot) : Prop := one.Pairwise fun a b => ¬ meet a b
theorem meet_symm {a b : Lot} (h : meet a b) : meet b a := let ⟨x, h1, h2⟩ := h; ⟨x, h2, h1⟩
theorem meet_self {a : Lot} (h : a ≠ []) : meet a a := by
  cases a with
  | nil => exact absurd rfl h
  | cons x xs => exact ⟨x, List.mem_cons_self, List.mem_cons_self⟩
def apStep (found : List (List Lot)) (lot : Lot) : List (List Lot) := found ++ (found.filter fun one => !one.any fun its => meetB lot its).map fun one => one ++ [lot]
theorem apart_snoc {one : List Lot} {lot : Lot} : Apart (one ++ [lot]) ↔ Apart one ∧ ∀ its ∈ one, ¬ meet lot its := by
  unfold Apart
  rw [List.pairwise_append]
  constructor
  · rintro ⟨h1, _, h3⟩
    exact ⟨h1, fun its hi hm => h3 its hi lot List.mem_cons_self (meet_symm hm)⟩
  · rintro ⟨h1, h2⟩
    exact ⟨h1, List.pairwise_singleton _ _, fun a ha b hb hm => h2 a ha (by rw [List.mem_singleton.mp hb] at hm; exact meet_symm hm)⟩
theorem sub_snoc {α : Type} {s t : List α} {x : α} : s.Sublist (t ++ [x]) ↔ s.Sublist t ∨ ∃ r, s = r ++ [x] ∧ r.Sublist t := by
  rw [List.sublist_append_iff]
  constructor
  · rintro ⟨a, b, rfl, ha, hb⟩
    cases b with
    | nil => exact .inl (by simpa using ha)
    | cons y ys =>
      have hl := hb.length_le
      cases ys with
      | nil =>
        have : y = x := by simpa using hb.subset List.mem_cons_self
        exact .inr ⟨a, by rw [this], ha⟩
      | cons z zs => simp at hl
  · rintro (h | ⟨r, rfl, h⟩)
    · exact ⟨s, [], by simp, h, List.nil_sublist _⟩
    · exact ⟨r, [x], rfl, h, List.Sublist.refl _⟩
theorem mem_apStep {found : List (List Lot)} {lot : Lot} {one : List Lot} : one ∈ apStep found lot ↔ one ∈ found ∨ ∃ r ∈ found, (∀ its ∈ r, ¬ meet lot its) ∧ r ++ [lot] = one := by
  unfold apStep
  rw [List.mem_append, List.mem_map]
  refine or_congr Iff.rfl ⟨?_, ?_⟩
  · rintro ⟨r, hr, e⟩
    have ⟨h1, h2⟩ := List.mem_filter.mp hr
    refine ⟨r, h1, fun its hi hm => ?_, e⟩
    rw [Bool.not_eq_true', List.any_eq_false] at h2
    exact h2 its hi (meetB_iff.mpr hm)
  · rintro ⟨r, hr, h, e⟩
    refine ⟨r, List.mem_filter.mpr ⟨hr, ?_⟩, e⟩
    rw [Bool.not_eq_true', List.any_eq_false]
    exact fun its hi hm => h its hi (meetB_iff.mp hm)
theorem ap_fold : ∀ (S D : List Lot) (found : List (List Lot)), (∀ one, one ∈ found ↔ one.Sublist D ∧ Apart one) → ∀ one, one ∈ S.foldl apStep found ↔ one.Sublist (D ++ S) ∧ Apart one
  | [], D, found, h => by simpa using h
  | lot :: S, D, found, h => by
    rw [List.foldl_cons, show D ++ lot :: S = (D ++ [lot]) ++ S by simp]
    refine ap_fold S (D ++ [lot]) (apStep found lot) fun one => ?_
    rw [mem_apStep, sub_snoc, h]
    constructor
    · rintro (⟨h1, h2⟩ | ⟨r, hr, h3, rfl⟩)
      · exact ⟨.inl h1, h2⟩
      · have ⟨h4, h5⟩ := (h r).mp hr
        exact ⟨.inr ⟨r, rfl, h4⟩, apart_snoc.mpr ⟨h5, h3⟩⟩
    · rintro ⟨h1 | ⟨r, rfl, h1⟩, h2⟩
      · exact .inl ⟨h1, h2⟩
      · have ⟨h3, h4⟩ := apart_snoc.mp h2
        exact .inr ⟨r, (h r).mpr ⟨h1, h3⟩, h4, rfl⟩
def apF (S : List Lot) : List (List Lot) := S.foldl apStep [[]]
theorem mem_apF {S : List Lot} {one : List Lot} : one ∈ apF S ↔ one.Sublist S ∧ Apart one := by
  have q := ap_fold S [] [[]] (fun one => by
    rw [List.mem_singleton, List.sublist_nil]
    exact ⟨fun h => ⟨h, h ▸ List.Pairwise.nil⟩, fun h => h.1⟩) one
  simpa [apF] using q
theorem apStep_len (found : List (List Lot)) (lot : Lot) : (apStep found lot).length ≤ 2 * found.length := by
  unfold apStep
  rw [List.length_append, List.length_map]
  have := List.length_filter_le (fun one : List Lot => !one.any fun its => meetB lot its) found
  omega
/-- the greatest of the lengths -/
def apN (S : List Lot) : Nat := ((apF S).map List.length).foldl max 0
theorem fold_max : ∀ (l : List Nat) (a : Nat), a ≤ l.foldl max a ∧ (∀ x ∈ l, x ≤ l.foldl max a) ∧ (l.foldl max a = a ∨ l.foldl max a ∈ l)
  | [], a => ⟨Nat.le_refl _, fun _ h => absurd h List.not_mem_nil, .inl rfl⟩
  | x :: l, a => by
    obtain ⟨h1, h2, h3⟩ := fold_max l (max a x)
    rw [List.foldl_cons]
    refine ⟨by omega, fun y hy => ?_, ?_⟩
    · rcases List.mem_cons.mp hy with e | e
      · subst e; omega
      · exact h2 y e
    · rcases h3 with e | e
      · rcases Nat.le_total a x with k | k
        · exact .inr (by rw [e, Nat.max_eq_right k]; exact List.mem_cons_self)
        · exact .inl (by rw [e, Nat.max_eq_left k])
      · exact .inr (List.mem_cons_of_mem _ e)
theorem apN_has (S : List Lot) : ∃ one, (∀ l ∈ one, l ∈ S) ∧ Apart one ∧ one.length = apN S := by
  obtain ⟨_, _, h⟩ := fold_max ((apF S).map List.length) 0
  rcases h with h | h
  · exact ⟨[], fun _ h => absurd h List.not_mem_nil, List.Pairwise.nil, h.symm⟩
  · obtain ⟨one, h1, h2⟩ := List.mem_map.mp h
    have ⟨h3, h4⟩ := mem_apF.mp h1
    exact ⟨one, fun l hl => h3.subset hl, h4, h2⟩
theorem pw_two {α : Type} {R : α → α → Prop} (hs : ∀ a b, R a b → R b a) : ∀ {l : List α}, l.Pairwise R → ∀ a ∈ l, ∀ b ∈ l, a ≠ b → R a b
  | x :: l, h, a, ha, b, hb, hne => by
    have h' := List.pairwise_cons.mp h
    rcases List.mem_cons.mp ha with e | e <;> rcases List.mem_cons.mp hb with k | k
    · exact absurd (e.trans k.symm) hne
    · exact e ▸ h'.1 b k
    · exact k ▸ hs _ _ (h'.1 a e)
    · exact pw_two hs h'.2 a e b k hne
theorem apN_top {S one : List Lot} (hS : S.Nodup) (hn : ∀ l ∈ one, l ≠ []) (h : ∀ l ∈ one, l ∈ S) (ha : Apart one) : one.length ≤ apN S := by
  have hd : one.Nodup := ha.imp_of_mem fun {a b} h1 _ h2 e => h2 (by subst e; exact meet_self (hn _ h1))
  have hl : one.length ≤ (S.filter fun l => decide (l ∈ one)).length := nodup_len hd fun l hl => List.mem_filter.mpr ⟨h l hl, decide_eq_true hl⟩
  have hp : Apart (S.filter fun l => decide (l ∈ one)) := by
    refine List.Pairwise.imp_of_mem ?_ (hS.filter _)
    intro a b h1 h2 hne
    have m1 := of_decide_eq_true (List.mem_filter.mp h1).2
    have m2 := of_decide_eq_true (List.mem_filter.mp h2).2
    exact pw_two (R := fun a b => ¬ meet a b) (fun x y k hm => k (meet_symm hm)) ha a m1 b m2 hne
  have := (fold_max ((apF S).map List.length) 0).2.1 _ (List.mem_map.mpr ⟨_, mem_apF.mpr ⟨List.filter_sublist, hp⟩, rfl⟩)
  exact Nat.le_trans hl this
/-- what crosses lots apart has as many parts -/
theorem apart_le : ∀ (one : List Lot) (t : Lot), (∀ l ∈ one, meet t l) → Apart one → one.length ≤ t.length
  | [], _, _, _ => Nat.zero_le _
  | l :: one, t, h, ha => by
    have ha' := List.pairwise_cons.mp ha
    obtain ⟨x, hx, hxl⟩ := h l List.mem_cons_self
    have q := apart_le one (t.erase x) (fun k hk => by
      obtain ⟨y, hy, hyk⟩ := h k (List.mem_cons_of_mem _ hk)
      exact ⟨y, (List.mem_erase_of_ne (by intro e; exact ha'.1 k hk ⟨x, hxl, e ▸ hyk⟩)).mpr hy, hyk⟩) ha'.2
    have := List.length_erase_of_mem hx
    have : 0 < t.length := List.length_pos_of_mem hx
    simp only [List.length_cons]; omega
theorem apN_le {S : List Lot} {t : Lot} (h : ∀ l ∈ S, meet t l) : apN S ≤ t.length := by
  obtain ⟨one, h1, h2, h3⟩ := apN_has S
  rw [← h3]
  exact apart_le one t (fun l hl => h l (h1 l hl)) h2
/-- moved -/
def sh (m : Int) (t : Lot) : Lot := t.map (· + m)
theorem mem_sh {m x : Int} {t : Lot} : x ∈ sh m t ↔ x - m ∈ t := by
  unfold sh
  rw [List.mem_map]
  exact ⟨fun ⟨y, hy, e⟩ => by rw [← e]; simpa using hy, fun h => ⟨x - m, h, by omega⟩⟩
theorem sh_sh (m : Int) (t : Lot) : sh m (sh (-m) t) = t := by
  unfold sh
  rw [List.map_map]
  exact (List.map_congr_left fun x _ => by show x + -m + m = x; omega).trans (List.map_id t)
theorem sh_sh' (m : Int) (t : Lot) : sh (-m) (sh m t) = t := by
  have := sh_sh (-m) t
  rwa [Int.neg_neg] at this
theorem sh_inj {m : Int} {a b : Lot} (h : sh m a = sh m b) : a = b := by rw [← sh_sh' m a, h, sh_sh']
theorem meet_sh {m : Int} {a b : Lot} : meet (sh m a) (sh m b) ↔ meet a b := by
  constructor
  · rintro ⟨x, h1, h2⟩; exact ⟨x - m, mem_sh.mp h1, mem_sh.mp h2⟩
  · rintro ⟨x, h1, h2⟩; exact ⟨x + m, mem_sh.mpr (by simpa using h1), mem_sh.mpr (by simpa using h2)⟩
theorem sub_sh {m : Int} {a b : Lot} : sub (sh m a) (sh m b) ↔ sub a b :=
  ⟨fun h x hx => by have := mem_sh.mp (h (x + m) (mem_sh.mpr (by simpa using hx))); simpa using this, fun h x hx => mem_sh.mpr (h _ (mem_sh.mp hx))⟩
theorem asc_sh {m : Int} {a : Lot} (h : Asc a) : Asc (sh m a) := List.Pairwise.map _ (fun a b h => by omega) h
theorem hits_sh {m : Int} {L : List Lot} {t : Lot} : Hits (L.map (sh m)) (sh m t) ↔ Hits L t := by
  unfold Hits
  constructor
  · intro h l hl; exact meet_sh.mp (h _ (List.mem_map.mpr ⟨l, hl, rfl⟩))
  · intro h l hl
    obtain ⟨k, hk, rfl⟩ := List.mem_map.mp hl
    exact meet_sh.mpr (h k hk)
theorem min_sh {m : Int} {L : List Lot} {t : Lot} : Min (Hits (L.map (sh m))) (sh m t) ↔ Min (Hits L) t := by
  constructor
  · rintro ⟨h1, h2, h3⟩
    refine ⟨by have := asc_sh (m := -m) h1; rwa [sh_sh'] at this, hits_sh.mp h2, fun s hs hst => ?_⟩
    exact sub_sh.mp (h3 (sh m s) (hits_sh.mpr hs) (sub_sh.mpr hst))
  · rintro ⟨h1, h2, h3⟩
    refine ⟨asc_sh h1, hits_sh.mpr h2, fun s hs hst => ?_⟩
    rw [← sh_sh m s] at hs hst ⊢
    exact sub_sh.mpr (h3 _ (hits_sh.mp hs) (sub_sh.mp hst))
theorem min_sh' {m : Int} {L : List Lot} {t : Lot} : Min (Hits (L.map (sh m))) t ↔ ∃ b, Min (Hits L) b ∧ t = sh m b := by
  constructor
  · intro h
    rw [← sh_sh m t] at h
    exact ⟨_, min_sh.mp h, (sh_sh m t).symm⟩
  · rintro ⟨b, h, rfl⟩; exact min_sh.mpr h
/-- low ones and high ones: as many as both -/
theorem apN_split {m : Int} {S A B : List Lot} (nS : S.Nodup) (nA : A.Nodup) (nB : B.Nodup) (eA : ∀ l ∈ A, l ≠ []) (eB : ∀ l ∈ B, l ≠ []) (hA : ∀ l ∈ A, ∀ x ∈ l, 0 ≤ x ∧ x < m) (hB : ∀ l ∈ B, ∀ x ∈ l, 0 ≤ x ∧ x < m)
    (hS : ∀ l, l ∈ S ↔ l ∈ A ∨ ∃ b ∈ B, l = sh m b) : apN S = apN A + apN B := by
  have eS : ∀ l ∈ S, l ≠ [] := fun l hl => by
    rcases (hS l).mp hl with h | ⟨b, h, rfl⟩
    · exact eA l h
    · have := eB b h
      unfold sh; simpa using this
  apply Nat.le_antisymm
  · obtain ⟨one, h1, h2, h3⟩ := apN_has S
    have p1 : (one.filter fun l => decide (l ∈ A)).length ≤ apN A := apN_top nA (fun l hl => eS l (h1 l (List.mem_filter.mp hl).1)) (fun l hl => of_decide_eq_true (List.mem_filter.mp hl).2) (h2.filter _)
    have p2 : ((one.filter fun l => !decide (l ∈ A)).map (sh (-m))).length ≤ apN B := by
      refine apN_top nB (fun l hl => ?_) (fun l hl => ?_) ?_
      · obtain ⟨k, hk, rfl⟩ := List.mem_map.mp hl
        have := eS k (h1 k (List.mem_filter.mp hk).1)
        unfold sh; simpa using this
      · obtain ⟨k, hk, rfl⟩ := List.mem_map.mp hl
        have ⟨k1, k2⟩ := List.mem_filter.mp hk
        rcases (hS k).mp (h1 k k1) with h | ⟨b, h, rfl⟩
        · simp [h] at k2
        · rw [sh_sh']; exact h
      · exact List.Pairwise.map _ (fun a b h hm => h (meet_sh.mp hm)) (h2.filter _)
    rw [List.length_map] at p2
    rw [← h3]
    have : ∀ l : List Lot, l.length = (l.filter fun l => decide (l ∈ A)).length + (l.filter fun l => !decide (l ∈ A)).length := by
      intro l
      induction l with
      | nil => rfl
      | cons x l ih =>
        by_cases h : x ∈ A
        · rw [List.filter_cons_of_pos (by simpa using h), List.filter_cons_of_neg (by simpa using h)]
          simp only [List.length_cons]; omega
        · rw [List.filter_cons_of_neg (by simpa using h), List.filter_cons_of_pos (by simpa using h)]
          simp only [List.length_cons]; omega
    have := this one
    omega
  · obtain ⟨a, a1, a2, a3⟩ := apN_has A
    obtain ⟨b, b1, b2, b3⟩ := apN_has B
    have := apN_top (S := S) (one := a ++ b.map (sh m)) nS (fun l hl => ?_) (fun l hl => ?_) ?_
    · rw [List.length_append, List.length_map] at this; omega
    · rcases List.mem_append.mp hl with h | h
      · exact eA l (a1 l h)
      · obtain ⟨k, hk, rfl⟩ := List.mem_map.mp h
        have := eB k (b1 k hk)
        unfold sh; simpa using this
    · rcases List.mem_append.mp hl with h | h
      · exact (hS l).mpr (.inl (a1 l h))
      · obtain ⟨k, hk, rfl⟩ := List.mem_map.mp h
        exact (hS _).mpr (.inr ⟨k, b1 k hk, rfl⟩)
    · refine List.pairwise_append.mpr ⟨a2, List.Pairwise.map _ (fun a b h hm => h (meet_sh.mp hm)) b2, fun x hx y hy ⟨z, hz1, hz2⟩ => ?_⟩
      obtain ⟨k, hk, rfl⟩ := List.mem_map.mp hy
      have := hA x (a1 x hx) z hz1
      have := hB k (b1 k hk) _ (mem_sh.mp hz2)
      omega
end Cr
end
section
set_option Elab.async false
set_option linter.all false
set_option autoImplicit false
set_option maxRecDepth 100000
/-! Lots in order: by size, then as they are. -/
namespace Cr
open PySem PySem.Spec PyProof.Rows L2 Py
def kD (l : Lot) : D := .tuple [.int (l.length : Int), tD l]
def leS (a b : Lot) : Bool := decide (a.length < b.length ∨ a.length = b.length ∧ a ≤ b)
theorem alike_ints : ∀ a b : List Int, W.alikeAll (a.map .int) (b.map .int) = true
  | [], _ => by simp [W.alikeAll]
  | _ :: _, [] => by simp [W.alikeAll]
  | x :: xs, y :: ys => by
    rw [List.map_cons, List.map_cons, W.alikeAll, alike_ints xs ys]
    simp [W.alike]
theorem alike_tD (a b : Lot) : W.alike (tD a) (tD b) = true := by rw [tD, tD, W.alike]; exact alike_ints a b
theorem alike_kD (a b : Lot) : W.alike (kD a) (kD b) = true := by
  rw [kD, kD, W.alike, W.alikeAll, W.alikeAll, alike_tD]
  simp [W.alike, W.alikeAll]
theorem eqv_tD (a b : Lot) : PyData.eqv (tD a) (tD b) = decide (a = b) := eqv_ints a b
theorem lt_tD (a b : Lot) : W.dataLt (tD a) (tD b) = decide (a < b) := by
  rw [tD, tD, W.dataLt_tuple]
  exact W.dataLt_ints a b
theorem lt_kD (a b : Lot) : W.dataLt (kD a) (kD b) = decide (a.length < b.length ∨ a.length = b.length ∧ a < b) := by
  rw [kD, kD, W.dataLt_pair (by simp [W.alike]) (alike_tD a b), W.dataLt_int, lt_tD, eqv_tD, show PyData.eqv (.int (a.length : Int)) (.int (b.length : Int)) = decide ((a.length : Int) = b.length) from keyI.eqv _ _]
  by_cases h : a.length = b.length
  · by_cases h2 : a = b
    · subst h2; simp
    · simp [h, h2]
  · have : ¬ (a.length : Int) = b.length := by omega
    simp [h, this]
theorem le_kD : W.dataLe false kD = leS := by
  funext a b
  show (!W.dataLt (kD b) (kD a)) = leS a b
  rw [lt_kD]
  unfold leS
  rw [Bool.eq_iff_iff]
  simp only [Bool.not_eq_true', decide_eq_false_iff_not, decide_eq_true_eq]
  constructor
  · intro h
    by_cases h1 : a.length < b.length
    · exact .inl h1
    · by_cases h2 : a.length = b.length
      · exact .inr ⟨h2, List.not_lt.mp fun h3 => h (.inr ⟨h2.symm, h3⟩)⟩
      · exact absurd (.inl (by omega)) h
  · rintro (h | ⟨h, h2⟩) (k | ⟨k, k2⟩)
    · omega
    · omega
    · omega
    · exact List.not_lt.mpr h2 k2
def keyS : KeyD Lot where
  enc := kD
  le := leS
  eqv := fun a b => by
    show (PyData.eqv (.int (a.length : Int)) (.int (b.length : Int)) && (PyData.eqv (tD a) (tD b) && true)) = _
    rw [eqv_tD, show PyData.eqv (.int (a.length : Int)) (.int (b.length : Int)) = decide ((a.length : Int) = b.length) from keyI.eqv _ _]
    by_cases h : a = b
    · subst h; simp
    · simp [h]
  ord := le_kD
  tr := fun a b c h1 h2 => by
    unfold leS at *
    simp only [decide_eq_true_eq] at *
    rcases h1 with h1 | ⟨h1, k1⟩ <;> rcases h2 with h2 | ⟨h2, k2⟩
    · exact .inl (by omega)
    · exact .inl (by omega)
    · exact .inl (by omega)
    · exact .inr ⟨by omega, List.le_trans k1 k2⟩
  tot := fun a b => by
    unfold leS
    simp only [Bool.or_eq_true, decide_eq_true_eq]
    rcases Nat.lt_trichotomy a.length b.length with h | h | h
    · exact .inl (.inl h)
    · rcases List.le_total a b with k | k
      · exact .inl (.inr ⟨h, k⟩)
      · exact .inr (.inr ⟨h.symm, k⟩)
    · exact .inr (.inl h)
  anti := fun a b h1 h2 => by
    unfold leS at *
    simp only [decide_eq_true_eq] at *
    rcases h1 with h1 | ⟨h1, k1⟩ <;> rcases h2 with h2 | ⟨h2, k2⟩
    · omega
    · omega
    · omega
    · exact List.le_antisymm k1 k2
theorem leS_len {a b : Lot} (h : leS a b = true) : a.length ≤ b.length := by
  unfold leS at h
  simp only [decide_eq_true_eq] at h
  omega
/-- in order, none twice -/
def Ord (S : List Lot) : Prop := S.Pairwise fun a b => leS a b = true ∧ a ≠ b
theorem ord_nodup {S : List Lot} (h : Ord S) : S.Nodup := h.imp fun h => h.2
theorem ord_ext {S T : List Lot} (hS : Ord S) (hT : Ord T) (h : ∀ x, x ∈ S ↔ x ∈ T) : S = T :=
  List.Perm.eq_of_pairwise (fun a b _ _ h1 h2 => keyS.anti a b h1 h2) (hS.imp fun h => h.1) (hT.imp fun h => h.1) (perm_nodup (ord_nodup hS) (ord_nodup hT) h)
theorem ord_filter {S : List Lot} (h : Ord S) (p : Lot → Bool) : Ord (S.filter p) := List.Pairwise.filter _ h
theorem ord_sort {S : List Lot} (h : S.Nodup) : Ord (S.mergeSort leS) := by
  have h1 := List.pairwise_mergeSort keyS.tr keyS.tot S
  have h2 : (S.mergeSort leS).Nodup := (List.mergeSort_perm S leS).nodup_iff.mpr h
  exact (List.pairwise_and_iff.mpr ⟨h1, h2⟩)
theorem mem_sort {S : List Lot} {x : Lot} : x ∈ S.mergeSort leS ↔ x ∈ S := (List.mergeSort_perm S leS).mem_iff
/-- lots by size -/
def bys (L : List Lot) : List Lot := ((firsts L).mergeSort keyT.le).mergeSort leS
theorem ord_bys (L : List Lot) : Ord (bys L) := ord_sort ((List.mergeSort_perm _ keyT.le).nodup_iff.mpr (firsts_nodup L))
theorem mem_bys {L : List Lot} {x : Lot} : x ∈ bys L ↔ x ∈ L := by rw [bys, mem_sort, (List.mergeSort_perm _ keyT.le).mem_iff, mem_firsts]
theorem byKeys_kD (S : List Lot) : byKeys (S.map kD) (S.map tD) = (S.mergeSort leS).map tD := by
  unfold byKeys
  have e : (S.map kD).zip (S.map tD) = S.map fun a => (kD a, tD a) := by
    induction S with
    | nil => rfl
    | cons a S ih => rw [List.map_cons, List.map_cons, List.zip_cons_cons, ih]; rfl
  rw [e, ← le_kD]
  have q := (List.map_mergeSort (f := fun a : Lot => (kD a, tD a)) (r := W.dataLe false kD) (s := fun a b : D × D => W.dataLe false id a.1 b.1) (l := S) fun a _ b _ => rfl)
  rw [← q, List.map_map]
  rfl
theorem sortOk_kD (S : List Lot) (h : ∀ l ∈ S, fine (kD l) = true) : sortOk (S.map kD) = true := by
  unfold sortOk
  refine (Bool.and_eq_true _ _).mpr ⟨(Bool.and_eq_true _ _).mpr ⟨List.all_eq_true.mpr fun a ha => List.all_eq_true.mpr fun b hb => ?_, List.all_eq_true.mpr fun a ha => ?_⟩, (Bool.or_eq_true _ _).mpr (.inl (List.all_eq_true.mpr fun a ha => ?_))⟩
  · obtain ⟨x, _, rfl⟩ := List.mem_map.mp ha
    obtain ⟨y, _, rfl⟩ := List.mem_map.mp hb
    exact alike_kD x y
  · obtain ⟨x, hx, rfl⟩ := List.mem_map.mp ha
    exact h x hx
  · obtain ⟨x, _, rfl⟩ := List.mem_map.mp ha
    rfl
theorem fine_kD (l : Lot) : fine (kD l) = true := by
  obtain ⟨h1, h2, _⟩ := fine_parts (fine_tD l)
  obtain ⟨_, _, b3⟩ := fine_ints l
  unfold fine kD
  rw [show PyData.plain (.tuple [.int (l.length : Int), tD l]) = (true && (PyData.plain (tD l) && true)) from rfl, h1]
  rw [show PyData.canLay0 (.tuple [.int (l.length : Int), tD l]) = (true && (PyData.canLay0 (tD l) && true)) from rfl, h2]
  rw [show PyData.depth (.tuple [.int (l.length : Int), tD l]) = max 0 (max (PyData.depthAll (l.map .int) + 1) 0) + 1 from rfl, b3]
  rw [show okD (.tuple [.int (l.length : Int), tD l]) = (true && (okD (tD l) && true)) from rfl, okD_tD]
  rfl
theorem sortOk_tD (S : List Lot) : sortOk (S.map tD) = true := by
  unfold sortOk
  refine (Bool.and_eq_true _ _).mpr ⟨(Bool.and_eq_true _ _).mpr ⟨List.all_eq_true.mpr fun a ha => List.all_eq_true.mpr fun b hb => ?_, List.all_eq_true.mpr fun a ha => ?_⟩, (Bool.or_eq_true _ _).mpr ?_⟩
  · obtain ⟨x, _, rfl⟩ := List.mem_map.mp ha
    obtain ⟨y, _, rfl⟩ := List.mem_map.mp hb
    exact alike_tD x y
  · obtain ⟨x, hx, rfl⟩ := List.mem_map.mp ha
    exact fine_tD x
  · refine .inl (List.all_eq_true.mpr fun a ha => ?_)
    obtain ⟨x, hx, rfl⟩ := List.mem_map.mp ha
    rfl
theorem intsD_ints : ∀ l : List Int, intsD (l.map .int) = some l
  | [] => rfl
  | i :: l => by show (intsD (l.map .int)).map (i :: ·) = _; rw [intsD_ints l]; rfl
theorem setOk_tD (S : List Lot) (h : S.length < 1000) : setOk (S.map tD) = true := by
  unfold setOk
  refine (Bool.and_eq_true _ _).mpr ⟨decide_eq_true (by simpa using h), (Bool.or_eq_true _ _).mpr (.inr (List.all_eq_true.mpr fun a ha => ?_))⟩
  obtain ⟨x, _, rfl⟩ := List.mem_map.mp ha
  show (intsD (x.map .int)).isSome = true
  rw [intsD_ints]; rfl
/-- sorted(set(lots)) -/
theorem sset_tD (S : List Lot) (hl : S.length < 1000) (d : D) (hd : itemsD d = some (S.map tD)) : ssetM d = some (.new (((firsts S).mergeSort keyT.le).map tD)) := by
  unfold ssetM
  rw [hd]
  simp only [sortOk_tD S, setOk_tD S hl, Bool.and_self, if_true]
  have e : S.map tD = S.map keyT.enc := rfl
  rw [e, setD_enc keyT, sortD_enc keyT]
  rfl
/-- sorted by keys (len, lot) -/
theorem skey_tD (S : List Lot) : skeyM (S.map kD) (S.map tD) = some (.new ((S.mergeSort leS).map tD)) := by
  unfold skeyM
  rw [sortOk_kD S fun l _ => fine_kD l, byKeys_kD]
  rfl
end Cr
end
section
set_option Elab.async false
set_option linter.all false
set_option autoImplicit false
set_option maxRecDepth 100000
namespace K11
open PySem Py Cr
abbrev Φn (n : Nat) : Fx := fxOf Pm (callN Pm n)
theorem md0 (n i : Nat) {fn : Fn} (h : Pm i = some fn) : (Φn n).md i = fn.md := by simp [Φn, fxOf, h]
theorem bl_any (a b : List Int) : b1M .any (.list ((a.map PyData.int).map fun d => PyData.bool (b.contains (decI d)))) = some (.dt (.bool (meetB a b))) := by
  rw [List.map_map]; exact b1_any (fun i => b.contains i) a
theorem bl_all (a b : List Int) : b1M .all (.list ((a.map PyData.int).map fun d => PyData.bool (b.contains (decI d)))) = some (.dt (.bool (subB a b))) := by
  rw [List.map_map]; exact b1_all (fun i => b.contains i) a
theorem len_ok {α β : Type} (f : α → β) {a : List α} (h : a.length ≤ 100000) : (a.map f).length ≤ sizeLine := by rw [List.length_map]; exact Nat.le_trans h (by decide)
theorem meets_eq (n : Nat) (a b : List Int) (ha : a.length ≤ 100000) : callN Pm (n + 1) 5 [.val (tD a), .val (tD b)] = .ok (.val (.bool (meetB a b))) [] := by
  show runFn (Φn n) f5 _ = _
  refine w_run rfl (w_ret (w_b1 (w_map (ds := a.map PyData.int) (fun d => .bool (b.contains (decI d))) (w_slen (w_val rfl) rfl rfl) rfl rfl (len_ok _ ha) fun d hd => ?_) rfl (bl_any a b))) rfl
  obtain ⟨i, _, rfl⟩ := List.mem_map.mp hd
  exact ⟨_, rfl, w_esc (w_cmp (w_val rfl) (w_val rfl) rfl rfl (in_tD i b)) rfl, rfl⟩
theorem within_eq (n : Nat) (a b : List Int) (ha : a.length ≤ 100000) : callN Pm (n + 1) 6 [.val (tD a), .val (tD b)] = .ok (.val (.bool (subB a b))) [] := by
  show runFn (Φn n) f6 _ = _
  refine w_run rfl (w_ret (w_b1 (w_map (ds := a.map PyData.int) (fun d => .bool (b.contains (decI d))) (w_slen (w_val rfl) rfl rfl) rfl rfl (len_ok _ ha) fun d hd => ?_) rfl (bl_all a b))) rfl
  obtain ⟨i, _, rfl⟩ := List.mem_map.mp hd
  exact ⟨_, rfl, w_esc (w_cmp (w_val rfl) (w_val rfl) rfl rfl (in_tD i b)) rfl, rfl⟩
end K11
end
section
set_option Elab.async false
set_option linter.all false
set_option autoImplicit false
set_option maxRecDepth 100000
namespace K11
open PySem Py Cr
theorem integer_eq (n : Nat) (i : Int) : callN Pm (n + 1) 0 [.val (.int i)] = .ok (.val (.bool true)) [] := by
  show runFn (Φn n) f0 _ = _
  exact w_run rfl (w_ret (w_bo (w_isi (w_val rfl) rfl (isi_fine (fine_int i))) (bo_go rfl (w_nt (w_isi (w_val rfl) rfl (isi_fine (fine_int i))) rfl) bo_nil))) rfl
theorem between_eq (n : Nat) (i a b : Int) (h : a ≤ i) (h2 : i ≤ b) : callN Pm (n + 2) 1 [.val (.int i), .val (.int a), .val (.int b)] = .ok (.val (.bool true)) [] := by
  show runFn (Φn (n + 1)) f1 _ = _
  exact w_run rfl (w_ret (w_bo (w_call1 rfl (w_val rfl) rfl (integer_eq n i) rfl) (bo_go rfl (w_cmp2 (w_val rfl) (w_val rfl) (w_val rfl) rfl rfl rfl rfl ((cmp_le a i).trans (by rw [decide_eq_true h])) ((cmp_le i b).trans (by rw [decide_eq_true h2]))) bo_nil))) rfl
theorem tuple_eq (n : Nat) (ds : List D) (hf : fine (.tuple ds) = true) (a b : Int) (h : a ≤ ds.length) (h2 : ds.length ≤ b) : callN Pm (n + 1) 2 [.val (.tuple ds), .val (.int a), .val (.int b)] = .ok (.val (.bool true)) [] := by
  show runFn (Φn n) f2 _ = _
  exact w_run rfl (w_ret (w_bo (w_isi (w_val rfl) rfl (isi_fine hf)) (bo_go rfl (w_cmp2 (w_val rfl) (w_b1 (w_val rfl) rfl rfl) (w_val rfl) rfl rfl rfl rfl ((cmp_le a ds.length).trans (by rw [decide_eq_true h])) ((cmp_le ds.length b).trans (by rw [decide_eq_true h2]))) bo_nil))) rfl
end K11
end
section
set_option Elab.async false
set_option linter.all false
set_option autoImplicit false
set_option maxRecDepth 100000
namespace K11
open PySem Py Cr
theorem w_zip {Φ : Fx} {ρ ρ1 ρ2 ρ3 ρ4 : Fr} {a b : E} {x y : R} {xs ys : List D} {p q : Pos} (h : ev Φ a ρ = .ok x ρ1) (he : x.esc ρ1 = .ok (.tuple xs) ρ2) (h2 : ev Φ b ρ2 = .ok y ρ3) (he2 : y.esc ρ3 = .ok (.tuple ys) ρ4) : evSr Φ (.zip p a b q) ρ = .ok ((xs.zip ys).map fun p => .tuple [p.1, p.2]) ρ4 := by
  simp [evSr, w_esc h he, w_esc h2 he2]
theorem w_slo {Φ : Fx} {ρ ρ1 ρ2 : Fr} {a b : E} {x y r : R} {d : D} {i : Int} {p q : Pos} (h : ev Φ a ρ = .ok x ρ1) (h2 : ev Φ b ρ1 = .ok y ρ2) (hx : x.look ρ2 = some d) (hy : y.look ρ2 = some (.int i)) (hb : slcM d (some i) none = some r) : ev Φ (.slo a b p q) ρ = .ok r ρ2 := by
  simp [ev, h, h2, hx, hy, hb, Py.ask]
theorem cut1 (ds : List D) : slcM (.tuple ds) (some 1) none = some (.dt (.tuple (ds.drop 1))) := by
  show some (R.dt (.tuple (cutD ds (some 1) none))) = _
  congr 3
  unfold cutD HT.sIx
  simp
  cases ds with
  | nil => rfl
  | cons d ds => simp
theorem asc_zip : ∀ {a : Lot}, Asc a → ((a.zip (a.drop 1)).all fun p => decide (p.1 < p.2)) = true
  | [], _ => rfl
  | [x], _ => rfl
  | x :: y :: l, h => by
    have h' := List.pairwise_cons.mp h
    have q := asc_zip h'.2
    simp only [List.drop_succ_cons, List.drop_zero, List.zip_cons_cons, List.all_cons, Bool.and_eq_true, decide_eq_true_eq] at *
    exact ⟨h'.1 y List.mem_cons_self, by simpa using q⟩
theorem ascending_eq (n : Nat) (a : Lot) (ha : a.length ≤ 100000) (h : Asc a) : callN Pm (n + 1) 3 [.val (tD a)] = .ok (.val (.bool true)) [] := by
  show runFn (Φn n) f3 _ = _
  have hz : ((a.map PyData.int).zip ((a.map PyData.int).drop 1)).map (fun p => PyData.tuple [p.1, p.2]) = (a.zip (a.drop 1)).map fun p => PyData.tuple [.int p.1, .int p.2] := by
    rw [← List.map_drop, List.zip_map, List.map_map]; rfl
  have hl : ((a.zip (a.drop 1)).map fun p => PyData.tuple [.int p.1, .int p.2]).length ≤ sizeLine := by
    rw [List.length_map, List.length_zip]; exact Nat.le_trans (Nat.min_le_left _ _) (Nat.le_trans ha (by decide))
  refine w_run rfl (w_ret (w_b1 (r := .dt (.bool true)) (w_map (ds := (a.zip (a.drop 1)).map fun p => PyData.tuple [.int p.1, .int p.2]) (fun d => match d with | .tuple [.int i, .int j] => .bool (decide (i < j)) | _ => .none) ((w_zip (w_val rfl) rfl (w_slo (w_val rfl) w_int rfl rfl (cut1 _)) rfl).trans (by rw [hz])) rfl rfl hl fun d hd => ?_) rfl ?_)) rfl
  · obtain ⟨p, _, rfl⟩ := List.mem_map.mp hd
    exact ⟨_, rfl, w_esc (w_cmp (w_val rfl) (w_val rfl) rfl rfl (cmp_lt p.1 p.2)) rfl, rfl⟩
  · rw [List.map_map]
    refine (b1_all (fun p : Int × Int => decide (p.1 < p.2)) _).trans ?_
    rw [asc_zip h]
end K11
end
section
set_option Elab.async false
set_option linter.all false
set_option autoImplicit false
set_option maxRecDepth 100000
namespace Py
open PySem
section
variable {Φ : Fx} {io : List Nat} {ρ ρ1 ρ2 ρ3 ρ4 : Fr} {a b c e : E} {x y z r : R} {d d1 d2 d3 : D} {ds es : List D} {p q : Pos} {i : Nat} {s : Str}
theorem w_skip {A rest : Ss} {o : SO} (h : tst Φ c ρ = .ok false ρ1) (hr : evSs Φ io rest ρ1 = o) : evSs Φ io (.cons (.iff c A .nil p) rest) ρ = o := by simp [evSs, evS, h, hr]
theorem w_evs_nil : evs Φ .nil ρ = .ok [] ρ := by simp [evs]
theorem w_evs {rs : Es} (h : ev Φ a ρ = .ok x ρ1) (he : x.esc ρ1 = .ok d ρ2) (hr : evs Φ rs ρ2 = .ok ds ρ3) : evs Φ (.cons a rs) ρ = .ok (d :: ds) ρ3 := by simp [evs, w_esc h he, hr]
theorem w_evs_star {rs : Es} (h : ev Φ a ρ = .ok x ρ1) (he : x.esc ρ1 = .ok d ρ2) (hr : evs Φ rs ρ2 = .ok ds ρ3) (hi : itemsD d = some es) : evs Φ (.star a p rs) ρ = .ok (es ++ ds) ρ3 := by simp [evs, w_esc h he, hr, hi]
theorem w_tup {as : Es} {k : Nat} (h : evs Φ as ρ = .ok ds ρ1) (hl : ds.length ≤ sizeLine) : ev Φ (.tup as k p) ρ = .ok (.dt (.tuple ds)) ρ1 := by simp [ev, h, hl]
theorem w_lst {as : Es} (h : evs Φ as ρ = .ok ds ρ1) (hl : ds.length ≤ sizeLine) : ev Φ (.lst as p) ρ = .ok (.new ds) ρ1 := by simp [ev, h, hl]
theorem w_end : evSs Φ io .nil ρ = .nx ρ := by simp [evSs]
theorem w_run0 {fn : Fn} {args : List Sl} {o : CO} (hl : args.length = fn.np) (h : evSs Φ (ioOf 0 fn.md) fn.body (args ++ List.replicate (fn.nn - fn.np) .no) = .nx ρ) (he : exitM (ioOf 0 fn.md) (.dt .none) ρ = o) : runFn Φ fn args = o := by simp [runFn, hl, h, he]
end
end Py
namespace K11
open PySem Py Cr
theorem sl_ok {n : Nat} (h : n ≤ 100000) : n ≤ sizeLine := Nat.le_trans h (by decide)
theorem all_true {α : Type} (f : α → D) (g : D → D) : ∀ {l : List α}, (∀ x ∈ l, g (f x) = .bool true) → b1M .all (.list ((l.map f).map g)) = some (.dt (.bool true)) := fun {l} h => by
  have e : (l.map f).map g = l.map fun _ => PyData.bool true := by
    rw [List.map_map]; exact List.map_congr_left h
  rw [e, b1_all (fun _ => true) l]
  congr 3
  exact List.all_eq_true.mpr fun _ _ => rfl
def Lt (m : Int) (a : Lot) : Prop := Asc a ∧ ∀ x ∈ a, 0 ≤ x ∧ x < m
theorem lot_eq (n : Nat) (a : Lot) (m : Int) (ha : a.length ≤ 100000) (h : Lt m a) : callN Pm (n + 3) 4 [.val (tD a), .val (.int m)] = .ok (.val (.bool true)) [] := by
  show runFn (Φn (n + 2)) f4 _ = _
  refine w_run rfl (w_skip (t_bo (k := false) (t_nt (t_isi (v := true) (w_val rfl) rfl (isi_fine (fine_tD a)))) (tb_go (k := false) (t_nt (t_b1 (v := true) (w_b1 (r := .dt (.bool true)) (w_map (ds := a.map .int) (fun _ => .bool true) (w_slen (w_val rfl) rfl rfl) rfl rfl (len_ok _ ha) fun d hd => ?_) rfl (all_true _ _ fun _ _ => rfl)) rfl)) tb_nil)) (w_ret (w_call1 rfl (w_val rfl) rfl (ascending_eq (n + 1) a ha h.1) rfl))) rfl
  obtain ⟨i, hi, rfl⟩ := List.mem_map.mp hd
  have := h.2 i hi
  exact ⟨_, rfl, w_esc (w_call3 rfl (w_val rfl) w_int (w_bin (w_val rfl) w_int rfl rfl rfl) rfl rfl rfl (between_eq n i 0 (m - 1) this.1 (by omega)) rfl) rfl, rfl⟩
theorem b1_len (a : Lot) : b1M .len (tD a) = some (.dt (.int (a.length : Int))) := by
  show (some (a.map PyData.int).length).map (fun n : Nat => R.dt (PyData.int (n : Int))) = _
  rw [List.length_map]; rfl
theorem bysize_eq (n : Nat) (a : Lot) : callN Pm (n + 1) 8 [.val (tD a)] = .ok (.val (kD a)) [] := by
  show runFn (Φn n) f8 _ = _
  exact w_run rfl (w_ret (w_tup (w_evs (w_b1 (w_val rfl) rfl (b1_len a)) rfl (w_evs (w_val rfl) rfl w_evs_nil)) (sl_ok (show 2 ≤ 100000 by decide)))) rfl
theorem many_eq (n : Nat) (m : Int) (h : 0 ≤ m) (h2 : m ≤ 40) : callN Pm (n + 3) 9 [.val (.int m)] = .ok (.val (.bool true)) [] := by
  show runFn (Φn (n + 2)) f9 _ = _
  exact w_run rfl (w_ret (w_call3 rfl (w_val rfl) w_int w_glI rfl rfl rfl (between_eq n m 0 40 h h2) rfl)) rfl
theorem checkmany_eq (n : Nat) (m : Int) (h : 0 ≤ m) (h2 : m ≤ 40) : callN Pm (n + 4) 10 [.val (.int m)] = .ok (.val .none) [] := by
  show runFn (Φn (n + 3)) f10 _ = _
  exact w_run0 rfl (w_skip (t_nt (k := true) (t_call (w_call1 rfl (w_val rfl) rfl (many_eq n m h h2) rfl) rfl)) w_end) rfl
theorem arelots_eq (n : Nat) (L : List Lot) (m : Int) (hl : L.length ≤ 400) (h : ∀ l ∈ L, Lt m l ∧ l.length ≤ 100000) : callN Pm (n + 4) 11 [.val (.tuple (L.map tD)), .val (.int m)] = .ok (.val (.bool true)) [] := by
  show runFn (Φn (n + 3)) f11 _ = _
  have hf : fine (.tuple (L.map tD)) = true := by
    obtain ⟨a1, a2, a3⟩ := fine_tDs L
    exact (fine_seq ⟨a1, a2, by omega⟩ (okL_tDs _)).1
  refine w_run rfl (w_ret (w_bo (w_call3 rfl (w_val rfl) w_int w_glI rfl rfl rfl (tuple_eq (n + 2) _ hf 0 400 (by omega) (by rw [List.length_map]; omega)) rfl) (bo_go rfl (w_b1 (r := .dt (.bool true)) (w_map (ds := L.map tD) (fun _ => .bool true) (w_slen (w_val rfl) rfl rfl) rfl rfl (len_ok _ (by omega)) fun d hd => ?_) rfl (all_true _ _ fun _ _ => rfl)) bo_nil))) rfl
  obtain ⟨l, hi, rfl⟩ := List.mem_map.mp hd
  exact ⟨_, rfl, w_esc (w_call2 rfl (w_val rfl) (w_val rfl) rfl rfl (lot_eq n l m (h l hi).2 (h l hi).1) rfl) rfl, rfl⟩
theorem checklots_eq (n : Nat) (L : List Lot) (m : Int) (hm : 0 ≤ m) (hm2 : m ≤ 40) (hl : L.length ≤ 400) (h : ∀ l ∈ L, Lt m l ∧ l.length ≤ 100000) : callN Pm (n + 5) 12 [.val (.tuple (L.map tD)), .val (.int m)] = .ok (.val .none) [] := by
  show runFn (Φn (n + 4)) f12 _ = _
  exact w_run0 rfl (w_exp (w_call1 rfl (w_val rfl) rfl (checkmany_eq n m hm hm2) rfl) (w_skip (t_nt (k := true) (t_call (w_call2 rfl (w_val rfl) (w_val rfl) rfl rfl (arelots_eq n L m hl h) rfl) rfl)) w_end)) rfl
end K11
end
section
set_option Elab.async false
set_option linter.all false
set_option autoImplicit false
set_option maxRecDepth 100000
namespace K11
open PySem Py Cr
theorem w_thn {Φ : Fx} {io : List Nat} {ρ ρ1 ρ2 : Fr} {c : E} {A B rest : Ss} {p : Pos} {o : SO} (h : tst Φ c ρ = .ok true ρ1) (hA : evSs Φ io A ρ1 = .nx ρ2) (hr : evSs Φ io rest ρ2 = o) : evSs Φ io (.cons (.iff c A B p) rest) ρ = o := w_then h (by rw [hA]; exact hr)
/-- least_of's turn -/
def lsStep (s : List Lot × List Lot) (lot : Lot) : List Lot × List Lot :=
  let ls := if s.1 ≠ [] ∧ (s.1.getLast?.getD []).length < lot.length then s.1 else s.2
  (if ls.any (subB · lot) then s.1 else s.1 ++ [lot], ls)
theorem eqv_nil (F : List Lot) : cmpop .NotEq (.list (F.map tD)) (.list []) = some (decide (F ≠ [])) := by
  obtain ⟨a1, a2, a3⟩ := fine_tDs F
  have h1 := (fine_seq ⟨a1, a2, by omega⟩ (okL_tDs _)).2
  have h2 : fine (.list []) = true := (fine_seq ⟨rfl, rfl, by decide⟩ rfl).2
  unfold cmpop
  simp only [h1, h2, Bool.and_self, if_true]
  cases F with
  | nil => simp [PyData.eqv, PyData.eqvAll]
  | cons => simp [PyData.eqv, PyData.eqvAll]
theorem idx_last (F : List Lot) (h : F ≠ []) : idxM (.list (F.map tD)) (.int (-1)) = some (.dt (tD (F.getLast?.getD []))) := by
  have hp : 0 < F.length := List.length_pos_iff.mpr h
  have e : L2.ixN (F.map tD).length (-1) = some (F.length - 1) := by
    rw [List.length_map]
    unfold L2.ixN
    rw [if_neg (by omega), if_pos (by omega)]
    congr 1; omega
  show (atD (F.map tD) (-1)).map R.dt = _
  unfold atD L2.atI
  rw [e]
  simp [List.getLast?_eq_getElem?, List.getElem?_eq_getElem (show F.length - 1 < F.length by omega)]
def lp7 : Ss := match b7 with | .cons _ (.cons (.for_ _ _ b _) _) => b | _ => .nil
def lsNew (s : List Lot × List Lot) (lot : Lot) : List Lot := if s.1 ≠ [] ∧ (s.1.getLast?.getD []).length < lot.length then s.1 else s.2
theorem any_within (n : Nat) (Ls : List Lot) (lot : Lot) (h : ∀ l ∈ Ls, l.length ≤ 100000) : ∀ l ∈ Ls, callN Pm (n + 1) 6 [.val (tD l), .val (tD lot)] = .ok (.val (.bool (subB l lot))) [] := fun l hl => within_eq n l lot (h l hl)
theorem decT (l : Lot) : (itemsD (tD l)).bind intsD = some l := intsD_ints l
def unT (d : D) : Lot := ((itemsD d).bind intsD).getD []
theorem unT_tD (l : Lot) : unT (tD l) = l := by unfold unT; rw [decT]; rfl
theorem any_sub (Ls : List Lot) (f : Lot → Bool) : b1M .any (.list ((Ls.map tD).map fun d => PyData.bool (f (unT d)))) = some (.dt (.bool (Ls.any f))) := by
  rw [List.map_map, show ((fun d => PyData.bool (f (unT d))) ∘ tD) = fun l => PyData.bool (f l) from funext fun l => by simp [unT_tD]]
  exact b1_any f Ls
/-- a list in a slot, its own or given away -/
def IsL (sl : Sl) (ds : List D) : Prop := sl = .own ds ∨ sl = .val (.list ds)
theorem turn7a (n : Nat) (L0 : D) (fs : Sl) (sl : Sl) (Ls : List Lot) (lot : Lot) (hsl : IsL sl (Ls.map tD)) (hLs : Ls.length ≤ 10000) (h : ∀ l ∈ Ls, l.length ≤ 100000) :
    tst (Φn (n + 1)) (match lp7 with | .cons _ (.cons (.iff c _ _ _) _) => c | _ => .bl true 0 ⟨0, 0, 0, 0⟩) [.val L0, fs, sl, .val (tD lot), .no] = .ok (!Ls.any (subB · lot)) [.val L0, fs, .val (.list (Ls.map tD)), .val (tD lot), .no] := by
  refine t_nt (t_b1 (w_b1 (w_map (ρ := [.val L0, fs, .val (.list (Ls.map tD)), .val (tD lot), .no]) (ds := Ls.map tD) (fun d => .bool (subB (unT d) lot)) ?_ rfl rfl (len_ok _ (by omega)) fun d hd => ?_) rfl (any_sub Ls fun l => subB l lot)) rfl)
  · rcases hsl with e | e <;> subst e
    · exact w_slen (w_own rfl) rfl rfl
    · exact w_slen (w_val rfl) rfl rfl
  · obtain ⟨l, hl, rfl⟩ := List.mem_map.mp hd
    rw [unT_tD]
    exact ⟨_, rfl, w_esc (w_call2 rfl (w_val rfl) (w_val rfl) rfl rfl (within_eq n l lot (h l hl)) rfl) rfl, rfl⟩
theorem look_L {sl : Sl} {ds : List D} (h : IsL sl ds) : sl.look = some (.list ds) := by rcases h with h | h <;> subst h <;> rfl
theorem turn7b (n : Nat) (L0 : D) (sl : Sl) (F : List Lot) (lot : Lot) :
    tst (Φn (n + 1)) (match lp7 with | .cons (.iff c _ _ _) _ => c | _ => .bl true 0 ⟨0, 0, 0, 0⟩) [.val L0, .own (F.map tD), sl, .val (tD lot), .no] = .ok (decide (F ≠ [] ∧ (F.getLast?.getD []).length < lot.length)) [.val L0, .own (F.map tD), sl, .val (tD lot), .no] := by
  by_cases h : F = []
  · subst h
    refine t_bo (k := false) (t_cmp (d1 := .list []) (d2 := .list []) (w_own rfl) (w_lst w_evs_nil (sl_ok (show 0 ≤ 100000 by decide))) rfl rfl (eqv_nil [])) (tb_stop (cc := true))
  · have e : decide (F ≠ [] ∧ (F.getLast?.getD []).length < lot.length) = decide (((F.getLast?.getD []).length : Int) < lot.length) := by
      simp [h]
    rw [e]
    refine t_bo (k := true) (t_cmp (d1 := .list (F.map tD)) (d2 := .list []) (w_own rfl) (w_lst w_evs_nil (sl_ok (show 0 ≤ 100000 by decide))) rfl rfl ((eqv_nil F).trans (by rw [decide_eq_true h]))) (tb_go (t_cmp (w_b1 (w_idx (w_own rfl) (w_neg w_int rfl) rfl rfl (idx_last F h)) rfl (b1_len _)) (w_b1 (w_val rfl) rfl (b1_len lot)) rfl rfl (cmp_lt _ _)) tb_nil)
theorem turn7c (n : Nat) (L0 : D) (F Ls : List Lot) (sl : Sl) (lot : Lot) (hsl : IsL sl (Ls.map tD)) (hF : F.length ≤ 10000) (hLs : Ls.length ≤ 10000) (h : ∀ l ∈ Ls, l.length ≤ 100000) :
    evSs (Φn (n + 1)) [] (match lp7 with | .cons _ r => r | _ => .nil) [.val L0, .own (F.map tD), sl, .val (tD lot), .no] = .nx [.val L0, .own ((if Ls.any (subB · lot) then F else F ++ [lot]).map tD), .val (.list (Ls.map tD)), .val (tD lot), .no] := by
  have t := turn7a n L0 (.own (F.map tD)) sl Ls lot hsl hLs h
  cases hb : Ls.any (subB · lot) with
  | true =>
    rw [hb] at t
    exact w_skip t w_end
  | false =>
    rw [hb] at t
    refine w_thn t (w_exp (w_app rfl (w_val rfl) rfl rfl ?_) w_end) (w_end.trans ?_)
    · rw [List.length_map]; exact Nat.lt_of_le_of_lt hF (by decide)
    · simp
theorem turn7 (n : Nat) (L0 : D) (F Ls : List Lot) (sl : Sl) (lot : Lot) (hsl : IsL sl (Ls.map tD)) (hF : F.length ≤ 10000) (hLs : Ls.length ≤ 10000) (h : ∀ l ∈ Ls, l.length ≤ 100000) (h2 : ∀ l ∈ F, l.length ≤ 100000) :
    evSs (Φn (n + 1)) [] lp7 [.val L0, .own (F.map tD), sl, .val (tD lot), .no] = .nx [.val L0, .own ((lsStep (F, Ls) lot).1.map tD), .val (.list ((lsStep (F, Ls) lot).2.map tD)), .val (tD lot), .no] := by
  have t := turn7b n L0 sl F lot
  by_cases hb : F ≠ [] ∧ (F.getLast?.getD []).length < lot.length
  · rw [decide_eq_true hb] at t
    have e : lsStep (F, Ls) lot = (if F.any (subB · lot) then F else F ++ [lot], F) := by unfold lsStep; simp only [if_pos hb]
    rw [e]
    exact w_thn t (w_asg (w_b1 (w_own rfl) rfl rfl) rfl w_end) (turn7c n L0 F F (.own (F.map tD)) lot (.inl rfl) hF hF h2)
  · rw [decide_eq_false hb] at t
    have e : lsStep (F, Ls) lot = (if Ls.any (subB · lot) then F else F ++ [lot], Ls) := by unfold lsStep; simp only [if_neg hb]
    rw [e]
    exact w_skip t (turn7c n L0 F Ls sl lot hsl hF hLs h)
def tg7 : Tg := match b7 with | .cons _ (.cons (.for_ t _ _ _) _) => t | _ => .nm 0 "" ⟨0, 0, 0, 0⟩
theorem loop7 (n : Nat) (L0 : D) : ∀ (S F Ls : List Lot) (sl x : Sl), IsL sl (Ls.map tD) → F.length + S.length ≤ 10000 → Ls.length ≤ 10000 → (∀ l ∈ S, l.length ≤ 100000) → (∀ l ∈ F, l.length ≤ 100000) → (∀ l ∈ Ls, l.length ≤ 100000) →
    ∃ sl' x', forLoop tg7.put (evSs (Φn (n + 1)) [] lp7) (S.map tD) [.val L0, .own (F.map tD), sl, x, .no] = .nx [.val L0, .own ((S.foldl lsStep (F, Ls)).1.map tD), sl', x', .no]
  | [], F, Ls, sl, x, _, _, _, _, _, _ => ⟨sl, x, rfl⟩
  | lot :: S, F, Ls, sl, x, hsl, hF, hLs, h1, h2, h3 => by
    have hF' : F.length + (S.length + 1) ≤ 10000 := hF
    have t := turn7 n L0 F Ls sl lot hsl (by omega) hLs h3 h2
    have q1 : (lsStep (F, Ls) lot).1 = F ∨ (lsStep (F, Ls) lot).1 = F ++ [lot] := by
      have z : ∀ b : Bool, (if b = true then F else F ++ [lot]) = F ∨ (if b = true then F else F ++ [lot]) = F ++ [lot] := fun b => by cases b <;> simp
      exact z _
    have q2 : (lsStep (F, Ls) lot).2 = F ∨ (lsStep (F, Ls) lot).2 = Ls := by
      unfold lsStep; simp only
      split
      · exact .inl rfl
      · exact .inr rfl
    obtain ⟨sl', x', e⟩ := loop7 n L0 S (lsStep (F, Ls) lot).1 (lsStep (F, Ls) lot).2 _ (.val (tD lot)) (.inr rfl) (by
        rcases q1 with e | e <;> rw [e]
        · omega
        · rw [List.length_append, List.length_singleton]; omega) (by rcases q2 with e | e <;> rw [e] <;> omega) (fun l hl => h1 l (List.mem_cons_of_mem _ hl)) (by
        intro l hl
        rcases q1 with e | e <;> rw [e] at hl
        · exact h2 l hl
        · rcases List.mem_append.mp hl with k | k
          · exact h2 l k
          · rw [List.mem_singleton.mp k]; exact h1 lot List.mem_cons_self) (by
        intro l hl
        rcases q2 with e | e <;> rw [e] at hl
        · exact h2 l hl
        · exact h3 l hl)
    refine ⟨sl', x', ?_⟩
    rw [List.map_cons, forLoop]
    show (match some ([.val L0, .own (F.map tD), sl, .val (tD lot), .no] : Fr) with | none => SO.no | some ρ1 => match evSs (Φn (n + 1)) [] lp7 ρ1 with | .nx ρ2 => forLoop tg7.put (evSs (Φn (n + 1)) [] lp7) (S.map tD) ρ2 | .ct ρ2 => forLoop tg7.put (evSs (Φn (n + 1)) [] lp7) (S.map tD) ρ2 | .bk ρ2 => .nx ρ2 | o => o) = _
    simp only [t]
    exact e
def leastL (L : List Lot) : List Lot := ((bys L).foldl lsStep ([], [])).1
theorem leastof_eq (n : Nat) (L : List Lot) (hl : L.length < 1000) (hs : ∀ l ∈ L, l.length ≤ 100000) : callN Pm (n + 3) 7 [.val (.list (L.map tD))] = .ok (.own ((leastL L).map tD)) [] := by
  show runFn (Φn (n + 2)) f7 _ = _
  have hb : (bys L).length ≤ L.length := by
    refine nodup_len (ord_nodup (ord_bys L)) fun x hx => mem_bys.mp hx
  obtain ⟨sl', x', e⟩ := loop7 (n + 1) (.list (L.map tD)) (bys L) [] [] (.own []) .no (.inl rfl) (by simp; omega) (by simp) (fun l hx => hs l (mem_bys.mp hx)) (fun l hx => absurd hx List.not_mem_nil) (fun l hx => absurd hx List.not_mem_nil)
  refine w_run rfl (w_par (w_lst w_evs_nil (sl_ok (show 0 ≤ 100000 by decide))) (w_lst w_evs_nil (sl_ok (show 0 ≤ 100000 by decide))) (by decide) rfl rfl (w_for rfl (w_slen (ds := (bys L).map tD) (w_skey (r := .new ((bys L).map tD)) (ds := ((firsts L).mergeSort keyT.le).map tD) (fun d => kD (unT d)) rfl (w_sset (w_val rfl) rfl (sset_tD L hl _ rfl)) rfl rfl ?_ ?_) rfl rfl) e (w_ret (w_own rfl)))) rfl
  · intro d hd
    obtain ⟨l, _, rfl⟩ := List.mem_map.mp hd
    rw [unT_tD]
    exact bysize_eq (n + 1) l
  · rw [List.map_map, show ((fun d => kD (unT d)) ∘ tD) = kD from funext fun l => by simp [unT_tD]]
    exact skey_tD _
end K11
end
section
set_option Elab.async false
set_option linter.all false
set_option autoImplicit false
set_option maxRecDepth 100000
namespace K11
open PySem Py Cr
theorem sub_len {a b : Lot} (ha : Asc a) (hs : sub a b) : a.length ≤ b.length := nodup_len (asc_nodup ha) hs
theorem sub_eq {a b : Lot} (ha : Asc a) (hb : Asc b) (hs : sub a b) (hl : b.length ≤ a.length) : a = b := by
  refine sub_anti ha hb hs fun x hx => Classical.byContradiction fun hn => ?_
  have : a.length ≤ (b.erase x).length := nodup_len (asc_nodup ha) fun y hy => (List.mem_erase_of_ne (by intro e; exact hn (e ▸ hy))).mpr (hs y hy)
  have := List.length_erase_of_mem hx
  have : 0 < b.length := List.length_pos_of_mem hx
  omega
theorem ifb (P : List Lot → Prop) (b : Bool) {x y : List Lot} (hx : b = true → P x) (hy : P y) : P (if b = true then x else y) := by
  cases b with
  | true => exact hx rfl
  | false => exact hy
/-- what least_of keeps: after the turns over `D` (in order), what stands in F is what is minimal in D -/
theorem ls_go : ∀ (S D F Ls : List Lot), Ord (D ++ S) → (∀ l ∈ D ++ S, Asc l) →
    (∀ x, x ∈ F ↔ x ∈ D ∧ ∀ y ∈ D, sub y x → y = x) → Ord F → (∀ y ∈ Ls, y ∈ F) → (∀ y ∈ F, ∀ z, F.getLast? = some z → y.length < z.length → y ∈ Ls) →
    Ord (S.foldl lsStep (F, Ls)).1 ∧ ∀ x, x ∈ (S.foldl lsStep (F, Ls)).1 ↔ x ∈ D ++ S ∧ ∀ y ∈ D ++ S, sub y x → y = x
  | [], D, F, Ls, _, _, hF, hO, _, _ => by
    simp only [List.foldl_nil, List.append_nil]
    exact ⟨hO, hF⟩
  | lot :: S, D, F, Ls, hD, hA, hF, hO, hL1, hL2 => by
    have e : D ++ lot :: S = (D ++ [lot]) ++ S := by simp
    rw [e] at hD hA ⊢
    have hpre : ∀ y ∈ D, leS y lot = true ∧ y ≠ lot := fun y hy => (List.pairwise_append.mp (List.pairwise_append.mp hD).1).2.2 y hy lot List.mem_cons_self
    have aD : ∀ y ∈ D, Asc y := fun y hy => hA y (List.mem_append_left _ (List.mem_append_left _ hy))
    have al : Asc lot := hA lot (List.mem_append_left _ (List.mem_append_right _ List.mem_cons_self))
    have fD : ∀ y ∈ F, y ∈ D := fun y hy => ((hF y).mp hy).1
    -- what the turn looks at
    have key : ∀ ls, ls = (if F ≠ [] ∧ (F.getLast?.getD []).length < lot.length then F else Ls) → (∀ y ∈ ls, y ∈ F) ∧ (∀ y ∈ F, y.length < lot.length → y ∈ ls) := by
      intro ls hls
      by_cases hc : F ≠ [] ∧ (F.getLast?.getD []).length < lot.length
      · rw [if_pos hc] at hls; subst hls; exact ⟨fun y h => h, fun y h _ => h⟩
      · rw [if_neg hc] at hls; subst hls
        refine ⟨hL1, fun y hy hlt => ?_⟩
        have hne : F ≠ [] := fun e => by rw [e] at hy; exact absurd hy List.not_mem_nil
        have hz := List.getLast?_eq_some_getLast hne
        refine hL2 y hy _ hz ?_
        have : ¬ (F.getLast?.getD []).length < lot.length := fun h => hc ⟨hne, h⟩
        rw [hz] at this
        simp only [Option.getD_some] at this
        omega
    have ⟨k1, k2⟩ := key _ rfl
    have hany : ((if F ≠ [] ∧ (F.getLast?.getD []).length < lot.length then F else Ls).any (subB · lot)) = true ↔ ∃ y ∈ D, sub y lot := by
      rw [List.any_eq_true]
      constructor
      · rintro ⟨y, hy, hs⟩
        exact ⟨y, fD y (k1 y hy), subB_iff.mp hs⟩
      · rintro ⟨y, hy, hs⟩
        obtain ⟨u, hu, hus⟩ := exists_min (over_up D) _ y rfl (aD y hy) ⟨y, hy, sub_refl y⟩
        have ⟨hu1, hu2⟩ := (min_over aD u).mp hu
        refine ⟨u, k2 u ((hF u).mpr ⟨hu1, hu2⟩) ?_, subB_iff.mpr (sub_trans hus hs)⟩
        have h1 := sub_len (aD u hu1) (sub_trans hus hs)
        refine Nat.lt_of_le_of_ne h1 fun e => (hpre u hu1).2 (sub_eq (aD u hu1) al (sub_trans hus hs) (by omega))
    have hmem : ∀ x, x ∈ (lsStep (F, Ls) lot).1 ↔ x ∈ D ++ [lot] ∧ ∀ y ∈ D ++ [lot], sub y x → y = x := by
      intro x
      have old : x ∈ F → x ∈ D ++ [lot] ∧ ∀ y ∈ D ++ [lot], sub y x → y = x := fun hx => by
        have ⟨h1, h2⟩ := (hF x).mp hx
        refine ⟨List.mem_append_left _ h1, fun y hy hs => ?_⟩
        rcases List.mem_append.mp hy with h | h
        · exact h2 y h hs
        · have := List.mem_singleton.mp h
          subst this
          exact sub_eq al (aD x h1) hs (leS_len (hpre x h1).1)
      show x ∈ (if _ = true then F else F ++ [lot]) ↔ _
      by_cases hb : ∃ y ∈ D, sub y lot
      · rw [if_pos (hany.mpr hb)]
        refine ⟨old, fun ⟨h1, h2⟩ => ?_⟩
        rcases List.mem_append.mp h1 with h | h
        · exact (hF x).mpr ⟨h, fun y hy => h2 y (List.mem_append_left _ hy)⟩
        · have := List.mem_singleton.mp h
          subst this
          obtain ⟨y, hy, hs⟩ := hb
          exact absurd (h2 y (List.mem_append_left _ hy) hs) (hpre y hy).2
      · rw [if_neg (fun h => hb (hany.mp h))]
        rw [List.mem_append]
        constructor
        · rintro (h | h)
          · exact old h
          · have := List.mem_singleton.mp h
            subst this
            refine ⟨List.mem_append_right _ List.mem_cons_self, fun y hy hs => ?_⟩
            rcases List.mem_append.mp hy with h | h
            · exact absurd ⟨y, h, hs⟩ hb
            · exact List.mem_singleton.mp h
        · rintro ⟨h1, h2⟩
          rcases List.mem_append.mp h1 with h | h
          · exact .inl ((hF x).mpr ⟨h, fun y hy => h2 y (List.mem_append_left _ hy)⟩)
          · exact .inr h
    have hord : Ord (lsStep (F, Ls) lot).1 := by
      refine ifb Ord _ (fun _ => hO) ?_
      exact List.pairwise_append.mpr ⟨hO, List.pairwise_singleton _ _, fun y hy z hz => by rw [List.mem_singleton.mp hz]; exact hpre y (fD y hy)⟩
    refine ls_go S (D ++ [lot]) _ _ hD hA hmem hord (fun y hy => ?_) fun y hy z hz hlt => ?_
    · exact ifb (fun G => y ∈ G) _ (fun _ => k1 y hy) (List.mem_append_left _ (k1 y hy))
    · revert hy hz
      refine ifb (fun G => y ∈ G → G.getLast? = some z → _) _ (fun _ hy hz => ?_) fun hy hz => ?_
      · have := leS_len (hpre z (fD z (List.mem_of_getLast? hz))).1
        exact k2 y hy (by omega)
      · rw [List.getLast?_append, List.getLast?_singleton] at hz
        have hz : lot = z := by simpa using hz
        subst hz
        rcases List.mem_append.mp hy with h | h
        · exact k2 y h hlt
        · rw [List.mem_singleton.mp h] at hlt; omega
theorem least_spec {L : List Lot} (hA : ∀ l ∈ L, Asc l) : Ord (leastL L) ∧ ∀ x, x ∈ leastL L ↔ x ∈ L ∧ ∀ y ∈ L, sub y x → y = x := by
  have q := ls_go (bys L) [] [] [] (by simpa using ord_bys L) (fun l hl => hA l (mem_bys.mp (by simpa using hl))) (fun x => by simp) List.Pairwise.nil (fun y h => absurd h List.not_mem_nil) (fun y h => absurd h List.not_mem_nil)
  refine ⟨q.1, fun x => (q.2 x).trans ?_⟩
  simp only [List.nil_append, mem_bys]
end K11
end
section
set_option Elab.async false
set_option linter.all false
set_option autoImplicit false
set_option maxRecDepth 100000
namespace K11
open PySem Py Cr
/-- tuple(sorted((*one, part))) -/
theorem sort_ints (l : List Int) : sortD (l.map .int) = (l.mergeSort keyI.le).map .int := sortD_enc keyI l
theorem sorted_ins {t : Lot} {x : Int} (h : Asc t) (hx : x ∉ t) : sortD ((t ++ [x]).map .int) = (insA x t).map .int := by
  rw [sort_ints]
  congr 1
  have hn : (t ++ [x]).Nodup := List.nodup_append.mpr ⟨asc_nodup h, by simp, fun a ha b hb e => hx (by rw [← List.mem_singleton.mp hb, ← e]; exact ha)⟩
  have p := List.mergeSort_perm (t ++ [x]) keyI.le
  have h1 := List.pairwise_mergeSort keyI.tr keyI.tot (t ++ [x])
  have h2 : ((t ++ [x]).mergeSort keyI.le).Nodup := p.nodup_iff.mpr hn
  refine asc_ext (List.pairwise_and_iff.mpr ⟨h1, h2⟩ |>.imp fun {a b} h => ?_) (asc_insA h hx) fun z => ?_
  · have := h.1
    have h3 := h.2
    have h4 : a ≤ b := by simpa [keyI] using this
    omega
  · rw [p.mem_iff, mem_insA, List.mem_append, List.mem_singleton]
    exact Or.comm
theorem sortOk_ints (l : List Int) : sortOk (l.map .int) = true := by
  unfold sortOk
  refine (Bool.and_eq_true _ _).mpr ⟨(Bool.and_eq_true _ _).mpr ⟨List.all_eq_true.mpr fun a ha => List.all_eq_true.mpr fun b hb => ?_, List.all_eq_true.mpr fun a ha => ?_⟩, (Bool.or_eq_true _ _).mpr (.inr (List.all_eq_true.mpr fun a ha => ?_))⟩
  · obtain ⟨x, _, rfl⟩ := List.mem_map.mp ha
    obtain ⟨y, _, rfl⟩ := List.mem_map.mp hb
    simp [W.alike]
  · obtain ⟨x, hx, rfl⟩ := List.mem_map.mp ha
    exact fine_int x
  · obtain ⟨x, _, rfl⟩ := List.mem_map.mp ha
    rfl
end K11
end
section
set_option Elab.async false
set_option linter.all false
set_option autoImplicit false
set_option maxRecDepth 100000
namespace K11
open PySem Py Cr
def out13 : Ss := match b13 with | .cons _ (.cons _ (.cons (.for_ _ _ b _) _)) => b | _ => .nil
def in13 : Ss := match out13 with | .cons (.iff _ (.cons (.for_ _ _ b _) _) _ _) _ => b | _ => .nil
theorem turn13 (n : Nat) (fd ks x6 : Sl) (K M : List Lot) (lot one : Lot) (x : Int) (hk : IsL ks (K.map tD)) (hK : K.length ≤ 10000) (hM : M.length ≤ 100000) (h : ∀ l ∈ K, l.length ≤ 100000) (ho : one.length ≤ 10000) (ha : Asc one) (hx : x ∉ one) :
    evSs (Φn (n + 1)) [] in13 [fd, .val (tD lot), .val (tD one), ks, .own (M.map tD), .val (.int x), x6, .no] =
      .nx [fd, .val (tD lot), .val (tD one), .val (.list (K.map tD)), .own ((if K.any (subB · (insA x one)) then M else M ++ [insA x one]).map tD), .val (.int x), .val (tD (insA x one)), .no] := by
  have hs : b1M .sorted (.tuple ((one ++ [x]).map PyData.int)) = some (.new ((insA x one).map .int)) := by
    show (if sortOk _ then some (R.new (sortD _)) else none) = _
    rw [sortOk_ints, sorted_ins ha hx]; rfl
  have hs' : b1M .sorted (.tuple (one.map PyData.int ++ [.int x])) = some (.new ((insA x one).map .int)) := by rw [List.map_append] at hs; exact hs
  have t : tst (Φn (n + 1)) (match in13 with | .cons _ (.cons (.iff c _ _ _) _) => c | _ => .bl true 0 ⟨0, 0, 0, 0⟩) [fd, .val (tD lot), .val (tD one), ks, .own (M.map tD), .val (.int x), .val (tD (insA x one)), .no] = .ok (!K.any (subB · (insA x one))) [fd, .val (tD lot), .val (tD one), .val (.list (K.map tD)), .own (M.map tD), .val (.int x), .val (tD (insA x one)), .no] := by
    refine t_nt (t_b1 (w_b1 (w_map (ρ := [fd, .val (tD lot), .val (tD one), .val (.list (K.map tD)), .own (M.map tD), .val (.int x), .val (tD (insA x one)), .no]) (ds := K.map tD) (fun d => .bool (subB (unT d) (insA x one))) ?_ rfl rfl (len_ok _ (by omega)) fun d hd => ?_) rfl (any_sub K fun l => subB l (insA x one))) rfl)
    · rcases hk with e | e <;> subst e
      · exact w_slen (w_own rfl) rfl rfl
      · exact w_slen (w_val rfl) rfl rfl
    · obtain ⟨l, hl, rfl⟩ := List.mem_map.mp hd
      rw [unT_tD]
      exact ⟨_, rfl, w_esc (w_call2 rfl (w_val rfl) (w_val rfl) rfl rfl (within_eq n l _ (h l hl)) rfl) rfl, rfl⟩
  refine w_asg (w_b1 (w_b1 (w_tup (ds := one.map PyData.int ++ [.int x]) (w_evs_star (w_val rfl) rfl (w_evs (w_val rfl) rfl w_evs_nil) rfl) (sl_ok (show (one.map PyData.int ++ [PyData.int x]).length ≤ 100000 by simp; omega))) rfl hs') rfl rfl) rfl ?_
  cases hb : K.any (subB · (insA x one)) with
  | true => rw [hb] at t; exact w_skip t w_end
  | false =>
    rw [hb] at t
    refine w_thn t (w_exp (w_app rfl (w_val rfl) rfl rfl ?_) w_end) (w_end.trans ?_)
    · rw [List.length_map]; exact Nat.lt_of_le_of_lt hM (by decide)
    · simp
def inL (K : List Lot) (one : Lot) (M : List Lot) (x : Int) : List Lot := if K.any (subB · (insA x one)) then M else M ++ [insA x one]
def tg13 : Tg := match out13 with | .cons (.iff _ (.cons (.for_ t _ _ _) _) _ _) _ => t | _ => .nm 0 "" ⟨0, 0, 0, 0⟩
theorem inloop13 (n : Nat) (fd : Sl) (K : List Lot) (lot one : Lot) (hK : K.length ≤ 10000) (h : ∀ l ∈ K, l.length ≤ 100000) (ho : one.length ≤ 10000) (ha : Asc one) : ∀ (xs : List Int) (M : List Lot) (ks x5 x6 : Sl), IsL ks (K.map tD) → M.length + xs.length ≤ 100000 → (∀ x ∈ xs, x ∉ one) →
    ∃ ks' x5' x6', IsL ks' (K.map tD) ∧ forLoop tg13.put (evSs (Φn (n + 1)) [] in13) (xs.map .int) [fd, .val (tD lot), .val (tD one), ks, .own (M.map tD), x5, x6, .no] = .nx [fd, .val (tD lot), .val (tD one), ks', .own ((xs.foldl (inL K one) M).map tD), x5', x6', .no]
  | [], M, ks, x5, x6, hk, _, _ => ⟨ks, x5, x6, hk, rfl⟩
  | x :: xs, M, ks, x5, x6, hk, hM, hx => by
    have hM' : M.length + (xs.length + 1) ≤ 100000 := hM
    have t := turn13 n fd ks x6 K M lot one x hk hK (by omega) h ho ha (hx x List.mem_cons_self)
    have q1 : (inL K one M x).length ≤ M.length + 1 := by
      unfold inL
      exact ifb (fun G => G.length ≤ M.length + 1) _ (fun _ => by omega) (by simp)
    obtain ⟨ks', x5', x6', hk', e⟩ := inloop13 n fd K lot one hK h ho ha xs (inL K one M x) _ (.val (.int x)) (.val (tD (insA x one))) (.inr rfl) (by omega) fun y hy => hx y (List.mem_cons_of_mem _ hy)
    refine ⟨ks', x5', x6', hk', ?_⟩
    rw [List.map_cons, forLoop]
    show (match some ([fd, .val (tD lot), .val (tD one), ks, .own (M.map tD), .val (.int x), x6, .no] : Fr) with | none => SO.no | some ρ1 => match evSs (Φn (n + 1)) [] in13 ρ1 with | .nx ρ2 => forLoop tg13.put (evSs (Φn (n + 1)) [] in13) (xs.map .int) ρ2 | .ct ρ2 => forLoop tg13.put (evSs (Φn (n + 1)) [] in13) (xs.map .int) ρ2 | .bk ρ2 => .nx ρ2 | o => o) = _
    simp only [t]
    exact e
theorem inL_fold (K : List Lot) (one : Lot) : ∀ (xs : List Int) (M : List Lot), xs.foldl (inL K one) M = M ++ (xs.map (insA · one)).filter fun n => !K.any (subB · n)
  | [], M => by simp
  | x :: xs, M => by
    rw [List.foldl_cons, inL_fold K one xs, List.map_cons]
    unfold inL
    cases hb : K.any (subB · (insA x one)) with
    | true => rw [List.filter_cons_of_neg (by rw [hb]; decide)]; rfl
    | false => rw [List.filter_cons_of_pos (by rw [hb]; rfl)]; simp
end K11
end
section
set_option Elab.async false
set_option linter.all false
set_option autoImplicit false
set_option maxRecDepth 100000
namespace K11
open PySem Py Cr
/-- what the outer turn adds -/
def adds (K : List Lot) (lot one : Lot) : List Lot := (lot.map (insA · one)).filter fun n => !K.any (subB · n)
theorem outturn13 (n : Nat) (fs ks x5 x6 : Sl) (K M : List Lot) (lot one : Lot) (hk : IsL ks (K.map tD)) (hK : K.length ≤ 10000) (hM : M.length + lot.length ≤ 100000) (h : ∀ l ∈ K, l.length ≤ 100000) (ho : one.length ≤ 10000) (ha : Asc one) (hl : lot.length ≤ 100000) :
    ∃ ks' x5' x6', IsL ks' (K.map tD) ∧ evSs (Φn (n + 1)) [] out13 [fs, .val (tD lot), .val (tD one), ks, .own (M.map tD), x5, x6, .no] = .nx [fs, .val (tD lot), .val (tD one), ks', .own ((if meetB one lot then M else M ++ adds K lot one).map tD), x5', x6', .no] := by
  have t : tst (Φn (n + 1)) (match out13 with | .cons (.iff c _ _ _) _ => c | _ => .bl true 0 ⟨0, 0, 0, 0⟩) [fs, .val (tD lot), .val (tD one), ks, .own (M.map tD), x5, x6, .no] = .ok (!meetB one lot) [fs, .val (tD lot), .val (tD one), ks, .own (M.map tD), x5, x6, .no] :=
    t_nt (t_call (w_call2 rfl (w_val rfl) (w_val rfl) rfl rfl (meets_eq n one lot (by omega)) rfl) rfl)
  cases hb : meetB one lot with
  | true => rw [hb] at t; exact ⟨ks, x5, x6, hk, w_skip t w_end⟩
  | false =>
    rw [hb] at t
    have hx : ∀ x ∈ lot, x ∉ one := fun x hx ho => by
      rw [show meetB one lot = true from meetB_iff.mpr ⟨x, ho, hx⟩] at hb
      exact absurd hb (by decide)
    obtain ⟨ks', x5', x6', hk', e⟩ := inloop13 n fs K lot one hK h ho ha lot M ks x5 x6 hk hM hx
    refine ⟨ks', x5', x6', hk', ?_⟩
    rw [inL_fold] at e
    exact w_thn t (w_for rfl (w_slen (w_val rfl) rfl rfl) e w_end) w_end
def otg13 : Tg := match b13 with | .cons _ (.cons _ (.cons (.for_ t _ _ _) _)) => t | _ => .nm 0 "" ⟨0, 0, 0, 0⟩
def outL (K : List Lot) (lot : Lot) (M : List Lot) (one : Lot) : List Lot := if meetB one lot then M else M ++ adds K lot one
theorem outL_len (K : List Lot) (lot : Lot) (M : List Lot) (one : Lot) : (outL K lot M one).length ≤ M.length + lot.length := by
  unfold outL
  refine ifb (fun G => G.length ≤ M.length + lot.length) _ (fun _ => by omega) ?_
  rw [List.length_append]
  have : (adds K lot one).length ≤ (lot.map (insA · one)).length := List.length_filter_le _ _
  rw [List.length_map] at this
  omega
theorem outloop13 (n : Nat) (fs : Sl) (K : List Lot) (lot : Lot) (hK : K.length ≤ 10000) (h : ∀ l ∈ K, l.length ≤ 100000) (hl : lot.length ≤ 40) : ∀ (os M : List Lot) (ks x2 x5 x6 : Sl), IsL ks (K.map tD) → M.length + 40 * os.length ≤ 100000 → (∀ l ∈ os, l.length ≤ 10000 ∧ Asc l) →
    ∃ ks' x2' x5' x6', IsL ks' (K.map tD) ∧ forLoop otg13.put (evSs (Φn (n + 1)) [] out13) (os.map tD) [fs, .val (tD lot), x2, ks, .own (M.map tD), x5, x6, .no] = .nx [fs, .val (tD lot), x2', ks', .own ((os.foldl (outL K lot) M).map tD), x5', x6', .no]
  | [], M, ks, x2, x5, x6, hk, _, _ => ⟨ks, x2, x5, x6, hk, rfl⟩
  | one :: os, M, ks, x2, x5, x6, hk, hM, ho => by
    have hM' : M.length + 40 * (os.length + 1) ≤ 100000 := hM
    have ⟨o1, o2⟩ := ho one List.mem_cons_self
    obtain ⟨k1, y5, y6, hk1, t⟩ := outturn13 n fs ks x5 x6 K M lot one hk hK (by omega) h o1 o2 (by omega)
    have q := outL_len K lot M one
    obtain ⟨ks', x2', x5', x6', hk', e⟩ := outloop13 n fs K lot hK h hl os (outL K lot M one) k1 (.val (tD one)) y5 y6 hk1 (by omega) fun l hl => ho l (List.mem_cons_of_mem _ hl)
    refine ⟨ks', x2', x5', x6', hk', ?_⟩
    rw [List.map_cons, forLoop]
    show (match some ([fs, .val (tD lot), .val (tD one), ks, .own (M.map tD), x5, x6, .no] : Fr) with | none => SO.no | some ρ1 => match evSs (Φn (n + 1)) [] out13 ρ1 with | .nx ρ2 => forLoop otg13.put (evSs (Φn (n + 1)) [] out13) (os.map tD) ρ2 | .ct ρ2 => forLoop otg13.put (evSs (Φn (n + 1)) [] out13) (os.map tD) ρ2 | .bk ρ2 => .nx ρ2 | o => o) = _
    simp only [t]
    exact e
theorem outL_fold (K : List Lot) (lot : Lot) : ∀ (os M : List Lot), os.foldl (outL K lot) M = M ++ (os.filter fun t => !meetB t lot).flatMap (adds K lot)
  | [], M => by simp
  | one :: os, M => by
    rw [List.foldl_cons, outL_fold K lot os]
    unfold outL
    cases hb : meetB one lot with
    | true => rw [List.filter_cons_of_neg (by rw [hb]; decide)]; rfl
    | false => rw [List.filter_cons_of_pos (by rw [hb]; rfl), List.flatMap_cons]; simp
end K11
end
section
set_option Elab.async false
set_option linter.all false
set_option autoImplicit false
set_option maxRecDepth 100000
namespace K11
open PySem Py Cr
theorem filter_tD (F : List Lot) (f : Lot → Bool) : ((F.map tD).filter fun d => f (unT d)).map id = (F.filter f).map tD := by
  rw [List.map_id, List.filter_map]
  congr 1
  exact List.filter_congr fun l _ => by simp [unT_tD]
theorem outs_len (K : List Lot) (lot : Lot) (hl : lot.length ≤ 40) : ∀ (os M : List Lot), (os.foldl (outL K lot) M).length ≤ M.length + 40 * os.length
  | [], M => by simp
  | one :: os, M => by
    rw [List.foldl_cons]
    have := outs_len K lot hl os (outL K lot M one)
    have := outL_len K lot M one
    rw [List.length_cons]; omega
theorem crossedby_eq (n : Nat) (F : List Lot) (lot : Lot) (hF : F.length ≤ 1000) (h : ∀ l ∈ F, l.length ≤ 10000 ∧ Asc l) (hl : lot.length ≤ 40) : callN Pm (n + 2) 13 [.val (.list (F.map tD)), .val (tD lot)] = .ok (.own ((step F lot).map tD)) [] := by
  show runFn (Φn (n + 1)) f13 _ = _
  have hK : (F.filter (meetB · lot)).length ≤ F.length := List.length_filter_le _ _
  obtain ⟨ks, x2, x5, x6, hk, e⟩ := outloop13 n (.val (.list (F.map tD))) (F.filter (meetB · lot)) lot (by omega) (fun l hx => by have := (h l (List.mem_filter.mp hx).1).1; omega) hl F [] (.own ((F.filter (meetB · lot)).map tD)) .no .no .no (.inl rfl) (by simp; omega) h
  rw [outL_fold, List.nil_append] at e
  have c : ev (Φn (n + 1)) (match b13 with | .cons (.asg _ _ _ e _) _ => e | _ => .non 0 ⟨0, 0, 0, 0⟩) [.val (.list (F.map tD)), .val (tD lot), .no, .no, .no, .no, .no, .no] = .ok (.new ((F.filter (meetB · lot)).map tD)) [.val (.list (F.map tD)), .val (tD lot), .no, .no, .no, .no, .no, .no] := by
    rw [← filter_tD F (meetB · lot)]
    refine w_flt (ds := F.map tD) (fun d => meetB (unT d) lot) id (w_slen (w_val rfl) rfl rfl) rfl rfl (len_ok _ (by omega)) fun d hd => ?_
    obtain ⟨l, hx, rfl⟩ := List.mem_map.mp hd
    rw [unT_tD]
    exact ⟨_, rfl, t_call (w_call2 rfl (w_val rfl) (w_val rfl) rfl rfl (meets_eq n l lot (by have := (h l hx).1; omega)) rfl) rfl, fun _ => w_esc (w_val rfl) rfl, rfl⟩
  have hlen : ((F.filter (meetB · lot)).map tD ++ (((F.filter fun t => !meetB t lot).flatMap (adds (F.filter (meetB · lot)) lot)).map tD ++ [])).length ≤ sizeLine := by
    have q := outs_len (F.filter (meetB · lot)) lot hl F []
    rw [outL_fold, List.nil_append] at q
    refine sl_ok ?_
    rw [List.length_append, List.length_append, List.length_map, List.length_map]
    simp only [List.length_nil] at *
    omega
  have hr : ∃ ρ', ev (Φn (n + 1)) (match b13 with | .cons _ (.cons _ (.cons _ (.cons (.ret e _) _))) => e | _ => .non 0 ⟨0, 0, 0, 0⟩) [.val (.list (F.map tD)), .val (tD lot), x2, ks, .own (((F.filter fun t => !meetB t lot).flatMap (adds (F.filter (meetB · lot)) lot)).map tD), x5, x6, .no] = .ok (.new ((F.filter (meetB · lot)).map tD ++ (((F.filter fun t => !meetB t lot).flatMap (adds (F.filter (meetB · lot)) lot)).map tD ++ []))) ρ' := by
    rcases hk with hk | hk <;> subst hk
    · exact ⟨_, w_lst (w_evs_star (w_own rfl) rfl (w_evs_star (w_own rfl) rfl w_evs_nil rfl) rfl) hlen⟩
    · exact ⟨_, w_lst (w_evs_star (w_val rfl) rfl (w_evs_star (w_own rfl) rfl w_evs_nil rfl) rfl) hlen⟩
  obtain ⟨ρ', hr⟩ := hr
  rw [show (step F lot).map tD = (F.filter (meetB · lot)).map tD ++ (((F.filter fun t => !meetB t lot).flatMap (adds (F.filter (meetB · lot)) lot)).map tD ++ []) by rw [List.append_nil, ← List.map_append]; rfl]
  exact w_run rfl (w_asg c rfl (w_asg (w_lst w_evs_nil (sl_ok (show 0 ≤ 100000 by decide))) rfl (w_for rfl (w_slen (w_val rfl) rfl rfl) e (w_ret hr)))) rfl
end K11
end
section
set_option Elab.async false
set_option linter.all false
set_option autoImplicit false
set_option maxRecDepth 100000
namespace Py
open PySem
section
variable {Φ : Fx} {io : List Nat} {ρ ρ1 ρ2 ρ3 ρ4 : Fr} {a b c e : E} {x y z r : R} {d d1 d2 d3 : D} {ds es ks : List D} {p q : Pos} {i : Nat} {s : Str}
theorem keyLoop_all {g : D → Fr → Out D} (key : D → D) : ∀ ds : List D, (∀ d ∈ ds, g d ρ = .ok (key d) ρ) → keyLoop g ds ρ = .ok (ds.map key) ρ
  | [], _ => rfl
  | d :: ds, h => by
    have q := keyLoop_all key ds fun d hd => h d (List.mem_cons_of_mem _ hd)
    rw [keyLoop, h d List.mem_cons_self]
    simp only [Out.bindN_ok, Out.bind_ok, q, List.map_cons]
theorem w_slam {pa pb pc : Pos} {n : Str} {sc : Scope} {pd : Pos} (key : D → D) (h : ev Φ a ρ = .ok x ρ1) (he : x.esc ρ1 = .ok d ρ2) (hd : itemsD d = some ds) (hp : plainSlots [i] ρ2 = true)
    (hc : ∀ d ∈ ds, escM (ev Φ b (ρ2.set i (.val d))) = .ok (key d) (ρ2.set i (.val d))) (hb : ∀ d, (ρ2.set i (.val d)).set i (ρ2.getD i .no) = ρ2) (hk : skeyM (ds.map key) ds = some r) : ev Φ (.slam pa a pb i n pc b sc pd q) ρ = .ok r ρ2 := by
  have e : keyLoop (lamM i fun ρ => escM (ev Φ b ρ)) ds ρ2 = .ok (ds.map key) ρ2 := keyLoop_all key ds fun d hd => by
    unfold lamM
    rw [if_pos hp]
    dsimp only
    rw [hc d hd]
    simp only [Out.bind_ok, hb d]
  simp only [ev, w_esc h he, keysM, Out.bind_ok, hd, e, hk, Py.ask]
end
end Py
end
section
set_option Elab.async false
set_option linter.all false
set_option autoImplicit false
set_option maxRecDepth 100000
namespace K11
open PySem Py Cr
def lp14 : Ss := match b14 with | .cons _ (.cons (.for_ _ _ b _) _) => b | _ => .nil
def tg14 : Tg := match b14 with | .cons _ (.cons (.for_ t _ _ _) _) => t | _ => .nm 0 "" ⟨0, 0, 0, 0⟩
theorem turn14 (n : Nat) (L0 : D) (F : List Lot) (lot : Lot) (hF : F.length ≤ 1000) (h : ∀ l ∈ F, l.length ≤ 10000 ∧ Asc l) (hl : lot.length ≤ 40) (hs : (step F lot).length ≤ 400) :
    evSs (Φn (n + 2)) [] lp14 [.val L0, .own (F.map tD), .val (tD lot), .no] = .nx [.val L0, .own ((step F lot).map tD), .val (tD lot), .no] := by
  refine w_asg (w_call2 rfl (w_own rfl) (w_val rfl) rfl rfl (crossedby_eq n F lot hF h hl) rfl) rfl ?_
  refine w_skip (t_cmp (w_b1 (d := .list ((step F lot).map tD)) (r := .dt (.int ((step F lot).length : Int))) (w_own rfl) rfl ?_) w_glI rfl rfl ((cmp_gt _ _).trans (by rw [decide_eq_false (by omega)]))) w_end
  show (some ((step F lot).map tD).length).map (fun n : Nat => R.dt (PyData.int (n : Int))) = _
  rw [List.length_map]; rfl
/-- never too many, on the way -/
def Few (L : List Lot) : Prop := ∀ D S, L = D ++ S → ∀ F, All (Hits D) F → F.length ≤ 400 ∧ ∀ t ∈ F, t.length ≤ 10000
theorem loop14 (n : Nat) (L0 : D) : ∀ (S D F : List Lot) (x : Sl), All (Hits D) F → (∀ l ∈ S, Asc l ∧ l.length ≤ 40) → Few (D ++ S) →
    ∃ x', forLoop tg14.put (evSs (Φn (n + 2)) [] lp14) (S.map tD) [.val L0, .own (F.map tD), x, .no] = .nx [.val L0, .own ((S.foldl step F).map tD), x', .no] ∧ All (Hits (D ++ S)) (S.foldl step F)
  | [], D, F, x, hF, _, _ => ⟨x, rfl, by simpa using hF⟩
  | lot :: S, D, F, x, hF, hl, hb => by
    have ⟨a1, a2⟩ := hl lot List.mem_cons_self
    have e : D ++ lot :: S = (D ++ [lot]) ++ S := by simp
    have hF' : All (Hits (D ++ [lot])) (step F lot) := step_hits hF a1
    have ⟨b1, b2⟩ := hb D (lot :: S) rfl F hF
    have ⟨c1, _⟩ := hb (D ++ [lot]) S e _ hF'
    have t := turn14 n L0 F lot (by omega) (fun l hx => ⟨b2 l hx, ((hF.mem l).mp hx).1⟩) a2 c1
    rw [e] at hb
    obtain ⟨x', q, r⟩ := loop14 n L0 S (D ++ [lot]) (step F lot) (.val (tD lot)) hF' (fun l hx => hl l (List.mem_cons_of_mem _ hx)) hb
    refine ⟨x', ?_, by rw [e]; exact r⟩
    rw [List.map_cons, forLoop]
    show (match some ([.val L0, .own (F.map tD), .val (tD lot), .no] : Fr) with | none => SO.no | some ρ1 => match evSs (Φn (n + 2)) [] lp14 ρ1 with | .nx ρ2 => forLoop tg14.put (evSs (Φn (n + 2)) [] lp14) (S.map tD) ρ2 | .ct ρ2 => forLoop tg14.put (evSs (Φn (n + 2)) [] lp14) (S.map tD) ρ2 | .bk ρ2 => .nx ρ2 | o => o) = _
    simp only [t]
    exact q
/-- what crossing_of gives -/
def crossL (L : List Lot) : List Lot := ((leastL L).foldl step [[]]).mergeSort leS
theorem crossingof_eq (n : Nat) (L : List Lot) (hl : L.length < 1000) (hs : ∀ l ∈ L, Asc l ∧ l.length ≤ 40) (hf : Few (leastL L)) : callN Pm (n + 4) 14 [.val (.list (L.map tD))] = .ok (.own ((crossL L).map tD)) [] ∧ All (Hits (leastL L)) ((leastL L).foldl step [[]]) := by
  have hlm : ∀ l ∈ leastL L, Asc l ∧ l.length ≤ 40 := fun l hx => hs l (((least_spec fun l hl => (hs l hl).1).2 l).mp hx).1
  obtain ⟨x', e, r⟩ := loop14 (n + 1) (.list (L.map tD)) (leastL L) [] [[]] .no all_nil hlm (by simpa using hf)
  refine ⟨?_, by simpa using r⟩
  show runFn (Φn (n + 3)) f14 _ = _
  refine w_run rfl (w_asg (w_lst (ds := [tD []]) (w_evs (w_tup w_evs_nil (sl_ok (show 0 ≤ 100000 by decide))) rfl w_evs_nil) (sl_ok (show 1 ≤ 100000 by decide))) rfl (w_for rfl (w_slen (ds := (leastL L).map tD) (w_call1 rfl (w_val rfl) rfl (leastof_eq n L hl fun l hx => by have := (hs l hx).2; omega) rfl) rfl rfl) e (w_ret (w_slam (r := .new ((crossL L).map tD)) (fun d => kD (unT d)) (w_own rfl) rfl rfl ?_ ?_ ?_ ?_)))) rfl
  · rfl
  · intro d hd
    obtain ⟨l, _, rfl⟩ := List.mem_map.mp hd
    rw [unT_tD]
    exact w_esc (w_tup (w_evs (w_b1 (w_val rfl) rfl (b1_len l)) rfl (w_evs (w_val rfl) rfl w_evs_nil)) (sl_ok (show 2 ≤ 100000 by decide))) rfl
  · intro d; rfl
  · rw [List.map_map, show ((fun d => kD (unT d)) ∘ tD) = kD from funext fun l => by simp [unT_tD]]
    exact skey_tD _
end K11
end
section
set_option Elab.async false
set_option linter.all false
set_option autoImplicit false
set_option maxRecDepth 100000
namespace K11
open PySem Py Cr
/-- lots as the law hands them in -/
structure Good (m : Int) (L : List Lot) : Prop where
  m0 : 0 ≤ m
  m1 : m ≤ 40
  len : L.length ≤ 400
  lot : ∀ l ∈ L, Lt m l
  few : Few (leastL L)
theorem lt_len {m : Int} (hm : m ≤ 40) {a : Lot} (h : Lt m a) : a.length ≤ 40 := by
  have q := nodup_len (b := (List.range 40).map fun (i : Nat) => (i : Int)) (asc_nodup h.1) fun x hx => by
    have := h.2 x hx
    exact List.mem_map.mpr ⟨x.toNat, List.mem_range.mpr (by omega), by omega⟩
  simpa using q
theorem crossing_eq (n : Nat) {m : Int} {L : List Lot} (h : Good m L) : callN Pm (n + 6) 16 [.val (.tuple (L.map tD)), .val (.int m)] = .ok (.val (.tuple ((crossL L).map tD))) [] := by
  show runFn (Φn (n + 5)) f16 _ = _
  have hl : ∀ l ∈ L, l.length ≤ 40 := fun l hx => lt_len h.m1 (h.lot l hx)
  exact w_run rfl (w_exp (w_call2 rfl (w_val rfl) (w_val rfl) rfl rfl (checklots_eq n L m h.m0 h.m1 h.len fun l hx => ⟨h.lot l hx, by have := hl l hx; omega⟩) rfl) (w_ret (w_b1 (w_call1 rfl (w_b1 (w_val rfl) rfl rfl) rfl (crossingof_eq (n + 1) L (by have := h.len; omega) (fun l hx => ⟨(h.lot l hx).1, hl l hx⟩) h.few).1 rfl) rfl rfl))) rfl
theorem cross_spec {m : Int} {L : List Lot} (h : Good m L) : Ord (crossL L) ∧ ∀ t, t ∈ crossL L ↔ Min (Hits L) t := by
  have q := (crossingof_eq 0 L (by have := h.len; omega) (fun l hx => ⟨(h.lot l hx).1, lt_len h.m1 (h.lot l hx)⟩) h.few).2
  refine ⟨ord_sort q.nodup, fun t => ?_⟩
  rw [crossL, mem_sort, q.mem]
  have ls := (least_spec fun l hx => (h.lot l hx).1).2
  refine min_congr (fun s => ⟨fun hh => hits_mono (fun l hl => ?_) hh, fun hh l hl => hh l ((ls l).mp hl).1⟩) t
  obtain ⟨u, hu, hus⟩ := exists_min (over_up L) _ l rfl (h.lot l hl).1 ⟨l, hl, sub_refl l⟩
  exact ⟨u, (ls u).mpr ((min_over (fun l hx => (h.lot l hx).1) u).mp hu), hus⟩
end K11
end
section
set_option Elab.async false
set_option linter.all false
set_option autoImplicit false
set_option maxRecDepth 100000
namespace K11
open PySem Py Cr
theorem cmp_ne (i j : Int) : cmpop .NotEq (.int i) (.int j) = some (decide (i ≠ j)) := by
  unfold cmpop
  simp only [fine_int, Bool.and_self, if_true]
  rw [show PyData.eqv (.int i) (.int j) = decide (i = j) from keyI.eqv i j]
  by_cases h : i = j <;> simp [h]
theorem w_ifeT {Φ : Fx} {ρ ρ1 : Fr} {c a b : E} {p : Pos} {o : Out R} (h : tst Φ c ρ = .ok true ρ1) (hr : ev Φ a ρ1 = o) : ev Φ (.ife c a b p) ρ = o := by simp [ev, h, hr]
theorem w_ifeF {Φ : Fx} {ρ ρ1 : Fr} {c a b : E} {p : Pos} {o : Out R} (h : tst Φ c ρ = .ok false ρ1) (hr : ev Φ b ρ1 = o) : ev Φ (.ife c a b p) ρ = o := by simp [ev, h, hr]
/-- is_alone_in -/
def aloneB (lot : Lot) (x : Int) (L : List Lot) : Bool := L.any fun one => one.contains x && !((lot.filter fun y => decide (y ≠ x)).any fun y => one.contains y)
theorem flt_ints (lot : Lot) (f : Int → Bool) (g : Int → Bool) : ((lot.map PyData.int).filter fun d => f (decI d)).map (fun d => PyData.bool (g (decI d))) = (lot.filter f).map fun y => PyData.bool (g y) := by
  rw [List.filter_map, List.map_map]
  rfl
theorem alone_eq (n : Nat) (lot : Lot) (x : Int) (L : List Lot) (hl : lot.length ≤ 100000) (hL : L.length ≤ 10000) : callN Pm (n + 1) 15 [.val (tD lot), .val (.int x), .val (.tuple (L.map tD))] = .ok (.val (.bool (aloneB lot x L))) [] := by
  show runFn (Φn n) f15 _ = _
  refine w_run rfl (w_ret (w_b1 (w_map (ds := L.map tD) (fun d => .bool ((unT d).contains x && !((lot.filter fun y => decide (y ≠ x)).any fun y => (unT d).contains y))) (w_slen (w_val rfl) rfl rfl) rfl rfl (len_ok _ (by omega)) fun d hd => ?_) rfl (any_sub L fun one => one.contains x && !((lot.filter fun y => decide (y ≠ x)).any fun y => one.contains y)))) rfl
  obtain ⟨one, _, rfl⟩ := List.mem_map.mp hd
  rw [unT_tD]
  refine ⟨_, rfl, ?_, rfl⟩
  cases hc : one.contains x with
  | false => exact w_esc (w_bo (w_cmp (w_val rfl) (w_val rfl) rfl rfl ((in_tD x one).trans (by rw [hc]; rfl))) (bo_stop (cc := true) rfl)) rfl
  | true =>
    refine w_esc (w_bo (w_cmp (w_val rfl) (w_val rfl) rfl rfl ((in_tD x one).trans (by rw [hc]))) (bo_go rfl (w_nt (v := (lot.filter fun y => decide (y ≠ x)).any fun y => one.contains y) (w_b1 (r := .dt (.bool ((lot.filter fun y => decide (y ≠ x)).any fun y => one.contains y))) (w_flt (ds := lot.map PyData.int) (fun d => decide (decI d ≠ x)) (fun d => .bool (one.contains (decI d))) (w_slen (w_val rfl) rfl rfl) rfl rfl (len_ok _ hl) fun d hd => ?_) rfl ?_) rfl) bo_nil)) rfl
    · obtain ⟨y, _, rfl⟩ := List.mem_map.mp hd
      exact ⟨_, rfl, t_cmp (w_val rfl) (w_val rfl) rfl rfl (cmp_ne y x), fun _ => w_esc (w_cmp (w_val rfl) (w_val rfl) rfl rfl (in_tD y one)) rfl, rfl⟩
    · rw [flt_ints lot (fun y => decide (y ≠ x)) fun y => one.contains y]
      exact b1_any _ _
theorem alone_of {lot : Lot} {x : Int} {L : List Lot} (h : Own L lot x) : aloneB lot x L = true := by
  obtain ⟨l, hl, hx, hy⟩ := h
  refine List.any_eq_true.mpr ⟨l, hl, (Bool.and_eq_true _ _).mpr ⟨by simpa using hx, ?_⟩⟩
  rw [Bool.not_eq_true', List.any_eq_false]
  intro y hm
  have ⟨h1, h2⟩ := List.mem_filter.mp hm
  simpa using hy y h1 (of_decide_eq_true h2)
theorem doescross_eq (n : Nat) {m : Int} {L : List Lot} (h : Good m L) {t : Lot} (ht : Lt m t) (hh : Hits L t) : callN Pm (n + 6) 17 [.val (.tuple (L.map tD)), .val (.int m), .val (tD t)] = .ok (.val (.bool true)) [] := by
  show runFn (Φn (n + 5)) f17 _ = _
  have hl : ∀ l ∈ L, l.length ≤ 40 := fun l hx => lt_len h.m1 (h.lot l hx)
  have tl := lt_len h.m1 ht
  have hn := h.len
  refine w_run rfl (w_exp (w_call2 rfl (w_val rfl) (w_val rfl) rfl rfl (checklots_eq n L m h.m0 h.m1 h.len fun l hx => ⟨h.lot l hx, by have := hl l hx; omega⟩) rfl) (w_skip (t_nt (k := true) (t_call (w_call2 rfl (w_val rfl) (w_val rfl) rfl rfl (lot_eq (n + 2) t m (by omega) ht) rfl) rfl)) (w_ret (w_b1 (r := .dt (.bool true)) (w_map (ds := L.map tD) (fun d => .bool (meetB t (unT d))) (w_slen (w_val rfl) rfl rfl) rfl rfl (len_ok _ (by omega)) fun d hd => ?_) rfl (all_true tD _ fun l hx => ?_))))) rfl
  · obtain ⟨l, hi, rfl⟩ := List.mem_map.mp hd
    rw [unT_tD]
    exact ⟨_, rfl, w_esc (w_call2 rfl (w_val rfl) (w_val rfl) rfl rfl (meets_eq (n + 4) t l (by omega)) rfl) rfl, rfl⟩
  · rw [unT_tD, meetB_iff.mpr (hh l hx)]
theorem isleast_eq (n : Nat) {m : Int} {L : List Lot} (h : Good m L) {t : Lot} (ht : Lt m t) (hh : Min (Hits L) t) : callN Pm (n + 7) 18 [.val (.tuple (L.map tD)), .val (.int m), .val (tD t)] = .ok (.val (.bool true)) [] := by
  show runFn (Φn (n + 6)) f18 _ = _
  have tl := lt_len h.m1 ht
  have hn := h.len
  have ⟨_, _, ho⟩ := min_iff.mp hh
  refine w_run rfl (w_ret (w_bo (w_call3 rfl (w_val rfl) (w_val rfl) (w_val rfl) rfl rfl rfl (doescross_eq n h ht hh.2.1) rfl) (bo_go rfl (w_b1 (r := .dt (.bool true)) (w_map (ds := t.map PyData.int) (fun d => .bool (aloneB t (decI d) L)) (w_slen (w_val rfl) rfl rfl) rfl rfl (len_ok _ (by omega)) fun d hd => ?_) rfl (all_true PyData.int _ fun x hx => ?_)) bo_nil))) rfl
  · obtain ⟨x, hx, rfl⟩ := List.mem_map.mp hd
    exact ⟨_, rfl, w_esc (w_call3 rfl (w_val rfl) (w_val rfl) (w_val rfl) rfl rfl rfl (alone_eq (n + 5) t x L (by omega) (by omega)) rfl) rfl, rfl⟩
  · show PyData.bool (aloneB t x L) = _
    rw [alone_of (ho x hx)]
end K11
end
section
set_option Elab.async false
set_option linter.all false
set_option autoImplicit false
set_option maxRecDepth 100000
namespace K11
open PySem Py Cr
theorem eqv_tnil (F : List Lot) : cmpop .NotEq (.tuple (F.map tD)) (.tuple []) = some (decide (F ≠ [])) := by
  obtain ⟨a1, a2, a3⟩ := fine_tDs F
  have h1 := (fine_seq ⟨a1, a2, by omega⟩ (okL_tDs _)).1
  have h2 : fine (.tuple []) = true := (fine_seq ⟨rfl, rfl, by decide⟩ rfl).1
  unfold cmpop
  simp only [h1, h2, Bool.and_self, if_true]
  cases F with
  | nil => simp [PyData.eqv, PyData.eqvAll]
  | cons => simp [PyData.eqv, PyData.eqvAll]
theorem idx_head {F : List Lot} {t : Lot} (h : F.head? = some t) : idxM (.tuple (F.map tD)) (.int 0) = some (.dt (tD t)) := by
  cases F with
  | nil => exact absurd h (by simp)
  | cons x F =>
    have : x = t := by simpa using h
    subst this
    show (atD ((x :: F).map tD) 0).map R.dt = _
    unfold atD L2.atI
    rw [show L2.ixN ((x :: F).map tD).length 0 = some 0 by unfold L2.ixN; simp]
    rfl
theorem fewest_eq (n : Nat) {m : Int} {L : List Lot} (h : Good m L) {t : Lot} (ht : (crossL L).head? = some t) : callN Pm (n + 7) 19 [.val (.tuple (L.map tD)), .val (.int m)] = .ok (.val (.int (t.length : Int))) [] := by
  show runFn (Φn (n + 6)) f19 _ = _
  have hne : crossL L ≠ [] := fun e => by rw [e] at ht; exact absurd ht (by simp)
  exact w_run rfl (w_asg (w_call2 rfl (w_val rfl) (w_val rfl) rfl rfl (crossing_eq n h) rfl) rfl (w_ret (w_ifeT (t_cmp (w_val rfl) (w_tup w_evs_nil (sl_ok (show 0 ≤ 100000 by decide))) rfl rfl ((eqv_tnil _).trans (by rw [decide_eq_true hne]))) (w_b1 (w_idx (w_val rfl) w_int rfl rfl (idx_head ht)) rfl (b1_len t))))) rfl
def cutL (L : List Lot) (k : Int) : List Lot := (crossL L).filter fun t => decide ((t.length : Int) ≤ k)
theorem crossL_len {m : Int} {L : List Lot} (h : Good m L) : (crossL L).length ≤ 400 := by
  have q := (crossingof_eq 0 L (by have := h.len; omega) (fun l hx => ⟨(h.lot l hx).1, lt_len h.m1 (h.lot l hx)⟩) h.few).2
  have := (h.few (leastL L) [] (by simp) _ q).1
  rwa [crossL, List.length_mergeSort]
theorem cutshort_eq (n : Nat) {m : Int} {L : List Lot} (h : Good m L) {k : Int} (h0 : 0 ≤ k) (hk : k ≤ m) : callN Pm (n + 6) 21 [.val (.tuple (L.map tD)), .val (.int m), .val (.int k)] = .ok (.val (.tuple ((cutL L k).map tD))) [] := by
  show runFn (Φn (n + 5)) f21 _ = _
  have hl : ∀ l ∈ L, l.length ≤ 40 := fun l hx => lt_len h.m1 (h.lot l hx)
  have cl := crossL_len h
  have c : ev (Φn (n + 5)) (match b21 with | .cons _ (.cons _ (.cons (.ret (.b1 _ _ e _) _) _)) => e | _ => .non 0 ⟨0, 0, 0, 0⟩) [.val (.tuple (L.map tD)), .val (.int m), .val (.int k), .no] = .ok (.new ((cutL L k).map tD)) [.val (.tuple (L.map tD)), .val (.int m), .val (.int k), .no] := by
    unfold cutL
    rw [← filter_tD (crossL L) fun t => decide ((t.length : Int) ≤ k)]
    refine w_flt (ds := (crossL L).map tD) (fun d => decide (((unT d).length : Int) ≤ k)) id (w_slen (w_call1 rfl (w_b1 (w_val rfl) rfl rfl) rfl (crossingof_eq (n + 1) L (by have := h.len; omega) (fun l hx => ⟨(h.lot l hx).1, hl l hx⟩) h.few).1 rfl) rfl rfl) rfl rfl (len_ok _ (by omega)) fun d hd => ?_
    obtain ⟨l, hx, rfl⟩ := List.mem_map.mp hd
    rw [unT_tD]
    exact ⟨_, rfl, t_cmp (w_b1 (w_val rfl) rfl (b1_len l)) (w_val rfl) rfl rfl (cmp_le _ _), fun _ => w_esc (w_val rfl) rfl, rfl⟩
  exact w_run rfl (w_exp (w_call2 rfl (w_val rfl) (w_val rfl) rfl rfl (checklots_eq n L m h.m0 h.m1 h.len fun l hx => ⟨h.lot l hx, by have := hl l hx; omega⟩) rfl) (w_skip (t_nt (k := true) (t_call (w_call3 rfl (w_val rfl) w_int (w_val rfl) rfl rfl rfl (between_eq (n + 3) k 0 m h0 hk) rfl) rfl)) (w_ret (w_b1 c rfl rfl)))) rfl
/-- apart_lots -/
def lD (one : List Lot) : D := .list (one.map tD)
def unL (d : D) : List Lot := ((itemsD d).getD []).map unT
theorem unL_lD (one : List Lot) : unL (lD one) = one := by
  show (one.map tD).map unT = one
  rw [List.map_map]
  exact (List.map_congr_left fun l _ => unT_tD l).trans (List.map_id one)
def lp20 : Ss := match b20 with | .cons _ (.cons _ (.cons _ (.cons _ (.cons (.for_ _ _ b _) _)))) => b | _ => .nil
def tg20 : Tg := match b20 with | .cons _ (.cons _ (.cons _ (.cons _ (.cons (.for_ t _ _ _) _)))) => t | _ => .nm 0 "" ⟨0, 0, 0, 0⟩
theorem turn20 (n : Nat) (L0 m0 sS : Sl) (F : List (List Lot)) (lot : Lot) (hF : F.length ≤ 32768) (hl : lot.length ≤ 40) (h : ∀ one ∈ F, one.length ≤ 1000) :
    evSs (Φn (n + 1)) [] lp20 [L0, m0, sS, .own (F.map lD), .val (tD lot), .no, .no] = .nx [L0, m0, sS, .own ((apStep F lot).map lD), .val (tD lot), .no, .no] := by
  have c : ev (Φn (n + 1)) (match lp20 with | .cons (.asg _ _ _ (.bin _ _ e _) _) _ => e | _ => .non 0 ⟨0, 0, 0, 0⟩) [L0, m0, sS, .own (F.map lD), .val (tD lot), .no, .no] = .ok (.new ((((F.map lD).filter fun d => !(unL d).any fun its => meetB lot its)).map fun d => lD (unL d ++ [lot]))) [L0, m0, sS, .val (.list (F.map lD)), .val (tD lot), .no, .no] := by
    refine w_flt (ρ := [L0, m0, sS, .val (.list (F.map lD)), .val (tD lot), .no, .no]) (ds := F.map lD) (fun d => !(unL d).any fun its => meetB lot its) (fun d => lD (unL d ++ [lot])) (w_slen (w_own rfl) rfl rfl) rfl rfl (len_ok _ (by omega)) fun d hd => ?_
    obtain ⟨one, hx, rfl⟩ := List.mem_map.mp hd
    rw [unL_lD]
    have hn := h one hx
    refine ⟨_, rfl, t_nt (t_b1 (w_b1 (w_map (ds := one.map tD) (fun d => .bool (meetB lot (unT d))) (w_slen (w_val rfl) rfl rfl) rfl rfl (len_ok _ (by omega)) fun d hd => ?_) rfl (any_sub one fun its => meetB lot its)) rfl), fun _ => ?_, rfl⟩
    · obtain ⟨l, _, rfl⟩ := List.mem_map.mp hd
      rw [unT_tD]
      exact ⟨_, rfl, w_esc (w_call2 rfl (w_val rfl) (w_val rfl) rfl rfl (meets_eq n lot l (by omega)) rfl) rfl, rfl⟩
    · refine (w_esc (w_lst (ds := one.map tD ++ [tD lot]) (w_evs_star (w_val rfl) rfl (w_evs (w_val rfl) rfl w_evs_nil) rfl) (sl_ok ?_)) rfl).trans ?_
      · rw [List.length_append, List.length_map, List.length_singleton]; omega
      · unfold lD; rw [List.map_append]; rfl
  have e : ((((F.map lD).filter fun d => !(unL d).any fun its => meetB lot its)).map fun d => lD (unL d ++ [lot])) = ((F.filter fun one => !one.any fun its => meetB lot its).map fun one => one ++ [lot]).map lD := by
    rw [List.filter_map, List.map_map, List.map_map]
    rw [show (F.filter ((fun d => !(unL d).any fun its => meetB lot its) ∘ lD)) = F.filter fun one => !one.any fun its => meetB lot its from List.filter_congr fun l _ => by simp [unL_lD]]
    exact List.map_congr_left fun l _ => by simp [unL_lD]
  rw [e] at c
  refine w_asg (w_bin (r := .new ((apStep F lot).map lD)) (w_own rfl) c rfl rfl ?_) rfl w_end
  have hlen := apStep_len F lot
  unfold apStep at hlen ⊢
  rw [List.map_append]
  rw [List.length_append] at hlen
  show (if (F.map lD).length + _ ≤ sizeLine then some (R.new _) else none) = _
  rw [if_pos]
  refine sl_ok ?_
  rw [List.length_map, List.length_map]; omega
theorem loop20 (n : Nat) (L0 m0 sS : Sl) : ∀ (S : List Lot) (F : List (List Lot)) (x : Sl), F.length * 2 ^ S.length ≤ 65536 → (∀ l ∈ S, l.length ≤ 40) → (∀ one ∈ F, one.length + S.length ≤ 1000) →
    ∃ x', forLoop tg20.put (evSs (Φn (n + 1)) [] lp20) (S.map tD) [L0, m0, sS, .own (F.map lD), x, .no, .no] = .nx [L0, m0, sS, .own ((S.foldl apStep F).map lD), x', .no, .no]
  | [], F, x, _, _, _ => ⟨x, rfl⟩
  | lot :: S, F, x, hF, hl, h => by
    have hF' : F.length * 2 ^ (S.length + 1) ≤ 65536 := hF
    rw [Nat.pow_succ] at hF'
    have hp : 1 ≤ 2 ^ S.length := Nat.one_le_two_pow
    have h1 : F.length * 2 ≤ F.length * (2 ^ S.length * 2) := Nat.mul_le_mul_left _ (by omega)
    have t := turn20 n L0 m0 sS F lot (by omega) (hl lot List.mem_cons_self) fun one ho => by have := h one ho; omega
    have hlen := apStep_len F lot
    obtain ⟨x', e⟩ := loop20 n L0 m0 sS S (apStep F lot) (.val (tD lot)) (by
        have : (apStep F lot).length * 2 ^ S.length ≤ (2 * F.length) * 2 ^ S.length := Nat.mul_le_mul_right _ hlen
        have e2 : (2 * F.length) * 2 ^ S.length = F.length * (2 ^ S.length * 2) := by rw [Nat.mul_comm 2, Nat.mul_assoc, Nat.mul_comm 2]
        omega) (fun l hx => hl l (List.mem_cons_of_mem _ hx)) fun one ho => by
        rcases mem_apStep.mp ho with k | ⟨r, hr, _, rfl⟩
        · have := h one k; simp only [List.length_cons] at this; omega
        · have := h r hr; simp only [List.length_cons, List.length_append, List.length_nil] at this ⊢; omega
    refine ⟨x', ?_⟩
    rw [List.map_cons, forLoop]
    show (match some ([L0, m0, sS, .own (F.map lD), .val (tD lot), .no, .no] : Fr) with | none => SO.no | some ρ1 => match evSs (Φn (n + 1)) [] lp20 ρ1 with | .nx ρ2 => forLoop tg20.put (evSs (Φn (n + 1)) [] lp20) (S.map tD) ρ2 | .ct ρ2 => forLoop tg20.put (evSs (Φn (n + 1)) [] lp20) (S.map tD) ρ2 | .bk ρ2 => .nx ρ2 | o => o) = _
    simp only [t]
    exact e
theorem cast_max : ∀ (l : List Nat) (a : Nat), (l.map fun (x : Nat) => (x : Int)).foldl max (a : Int) = ((l.foldl max a : Nat) : Int)
  | [], a => rfl
  | x :: l, a => by
    rw [List.map_cons, List.foldl_cons, List.foldl_cons, ← cast_max l (max a x)]
    congr 1
    omega
theorem b1_max {α : Type} (f : α → Nat) {l : List α} (h : l ≠ []) : b1M .max (.list (l.map fun x => PyData.int (f x : Int))) = some (.dt (.int (((l.map f).foldl max 0 : Nat) : Int))) := by
  cases l with
  | nil => exact absurd rfl h
  | cons x l =>
    have e : intsD ((x :: l).map fun x => PyData.int (f x : Int)) = some ((f x : Int) :: (l.map f).map fun (x : Nat) => (x : Int)) := by
      have := intsD_ints (((x :: l).map f).map fun (x : Nat) => (x : Int))
      rw [List.map_map, List.map_map] at this
      exact this
    show (match intsD ((x :: l).map fun x => PyData.int (f x : Int)) with | some (i :: r) => some (R.dt (.int (r.foldl max i))) | _ => none) = _
    rw [e]
    show some (R.dt (.int (((l.map f).map fun (x : Nat) => (x : Int)).foldl max (f x : Int)))) = _
    rw [cast_max, List.map_cons, List.foldl_cons, Nat.zero_max]
/-- handed in rightly -/
structure G0 (m : Int) (L : List Lot) : Prop where
  m0 : 0 ≤ m
  m1 : m ≤ 40
  len : L.length ≤ 400
  lot : ∀ l ∈ L, Lt m l
theorem Good.g0 {m : Int} {L : List Lot} (h : Good m L) : G0 m L := ⟨h.m0, h.m1, h.len, h.lot⟩
theorem apart_eq0 (n : Nat) {m : Int} {L : List Lot} (h : G0 m L) (hs : (leastL L).length ≤ 16) : callN Pm (n + 6) 20 [.val (.tuple (L.map tD)), .val (.int m)] = .ok (.val (.int (apN (leastL L) : Int))) [] := by
  show runFn (Φn (n + 5)) f20 _ = _
  have hl : ∀ l ∈ L, l.length ≤ 40 := fun l hx => lt_len h.m1 (h.lot l hx)
  have hlm : ∀ l ∈ leastL L, l.length ≤ 40 := fun l hx => hl l (((least_spec fun l hl => (h.lot l hl).1).2 l).mp hx).1
  obtain ⟨x', e⟩ := loop20 (n + 4) (.val (.tuple (L.map tD))) (.val (.int m)) (.val (.list ((leastL L).map tD))) (leastL L) [[]] .no (by
      have : 2 ^ (leastL L).length ≤ 2 ^ 16 := Nat.pow_le_pow_right (by decide) hs
      simp only [List.length_singleton]; omega) hlm (by simp; omega)
  have fl : (apF (leastL L)).length ≤ 65536 := by
    have : ∀ (S : List Lot) (F : List (List Lot)), (S.foldl apStep F).length ≤ F.length * 2 ^ S.length := by
      intro S
      induction S with
      | nil => intro F; simp
      | cons l S ih =>
        intro F
        rw [List.foldl_cons, List.length_cons, Nat.pow_succ]
        refine Nat.le_trans (ih _) ?_
        have := Nat.mul_le_mul_right (2 ^ S.length) (apStep_len F l)
        rw [show F.length * (2 ^ S.length * 2) = (2 * F.length) * 2 ^ S.length by rw [Nat.mul_comm 2, Nat.mul_assoc, Nat.mul_comm 2]]
        exact this
    refine Nat.le_trans (this (leastL L) [[]]) ?_
    have : 2 ^ (leastL L).length ≤ 2 ^ 16 := Nat.pow_le_pow_right (by decide) hs
    simp only [List.length_singleton]; omega
  have hm : ev (Φn (n + 5)) (match b20 with | .cons _ (.cons _ (.cons _ (.cons _ (.cons _ (.cons (.ret (.b1 _ _ e _) _) _))))) => e | _ => .non 0 ⟨0, 0, 0, 0⟩) [.val (.tuple (L.map tD)), .val (.int m), .val (.list ((leastL L).map tD)), .own ((apF (leastL L)).map lD), x', .no, .no] = .ok (.new ((apF (leastL L)).map fun one => PyData.int (one.length : Int))) [.val (.tuple (L.map tD)), .val (.int m), .val (.list ((leastL L).map tD)), .val (.list ((apF (leastL L)).map lD)), x', .no, .no] := by
    rw [show ((apF (leastL L)).map fun one => PyData.int (one.length : Int)) = ((apF (leastL L)).map lD).map fun d => PyData.int ((unL d).length : Int) by rw [List.map_map]; exact List.map_congr_left fun l _ => by simp [unL_lD]]
    refine w_map (ρ := [.val (.tuple (L.map tD)), .val (.int m), .val (.list ((leastL L).map tD)), .val (.list ((apF (leastL L)).map lD)), x', .no, .no]) (ds := (apF (leastL L)).map lD) (fun d => PyData.int ((unL d).length : Int)) (w_slen (w_own rfl) rfl rfl) rfl rfl (len_ok _ (by omega)) fun d hd => ?_
    obtain ⟨one, _, rfl⟩ := List.mem_map.mp hd
    rw [unL_lD]
    refine ⟨_, rfl, w_esc (w_b1 (r := .dt (.int (one.length : Int))) (w_val rfl) rfl ?_) rfl, rfl⟩
    show (some (one.map tD).length).map (fun n : Nat => R.dt (PyData.int (n : Int))) = _
    rw [List.length_map]; rfl
  have hx : tst (Φn (n + 5)) (match b20 with | .cons _ (.cons _ (.cons (.iff c _ _ _) _)) => c | _ => .non 0 ⟨0, 0, 0, 0⟩) [.val (.tuple (L.map tD)), .val (.int m), .own ((leastL L).map tD), .no, .no, .no, .no] = .ok false [.val (.tuple (L.map tD)), .val (.int m), .own ((leastL L).map tD), .no, .no, .no, .no] := by
    refine t_cmp (w_b1 (r := .dt (.int ((leastL L).length : Int))) (w_own rfl) rfl ?_) w_int rfl rfl ((cmp_gt _ _).trans (by rw [decide_eq_false (by omega)]))
    show (some ((leastL L).map tD).length).map (fun n : Nat => R.dt (PyData.int (n : Int))) = _
    rw [List.length_map]; rfl
  have ne : apF (leastL L) ≠ [] := fun e => by
    have : [] ∈ apF (leastL L) := mem_apF.mpr ⟨List.nil_sublist _, List.Pairwise.nil⟩
    rw [e] at this; exact absurd this List.not_mem_nil
  exact w_run rfl (w_exp (w_call2 rfl (w_val rfl) (w_val rfl) rfl rfl (checklots_eq n L m h.m0 h.m1 h.len fun l hx => ⟨h.lot l hx, by have := hl l hx; omega⟩) rfl) (w_asg (w_call1 rfl (w_b1 (w_val rfl) rfl rfl) rfl (leastof_eq (n + 2) L (by have := h.len; omega) fun l hx => by have := hl l hx; omega) rfl) rfl (w_skip hx (w_asg (w_lst (ds := [lD []]) (w_evs (w_lst w_evs_nil (sl_ok (show 0 ≤ 100000 by decide))) rfl w_evs_nil) (sl_ok (show 1 ≤ 100000 by decide))) rfl (w_for rfl (w_slen (w_own rfl) rfl rfl) e (w_ret (w_b1 hm rfl (b1_max List.length ne)))))))) rfl
theorem apart_eq (n : Nat) {m : Int} {L : List Lot} (h : Good m L) (hs : (leastL L).length ≤ 16) : callN Pm (n + 6) 20 [.val (.tuple (L.map tD)), .val (.int m)] = .ok (.val (.int (apN (leastL L) : Int))) [] := apart_eq0 n h.g0 hs
end K11
end
section
set_option Elab.async false
set_option linter.all false
set_option autoImplicit false
set_option maxRecDepth 100000
namespace Py
open PySem
section
variable {Φ : Fx} {io : List Nat} {ρ ρ1 ρ2 ρ3 ρ4 ρ5 : Fr} {a b c e : E} {x y z r : R} {d d1 d2 d3 : D} {ds es ks : List D} {p q : Pos} {i : Nat} {s : Str}
theorem w_thenR {A B rest : Ss} (h : tst Φ c ρ = .ok true ρ1) (hA : evSs Φ io A ρ1 = .rt r ρ2) : evSs Φ io (.cons (.iff c A B p) rest) ρ = .rt r ρ2 := w_then h (by rw [hA]; rfl)
theorem w_six {n : Str} {pa pb pc : Pos} {ix : E} {rest : Ss} {o : SO} (h : ev Φ e ρ = .ok x ρ1) (he : x.esc ρ1 = .ok d ρ2) (ho : ρ2[i]? = some (.own es)) (h2 : ev Φ ix ρ2 = .ok y ρ3) (he2 : y.esc ρ3 = .ok d2 ρ4) (hk : sixM i d2 d ρ4 = some ρ5) (hr : evSs Φ io rest ρ5 = o) : evSs Φ io (.cons (.six i n pa ix pb e pc) rest) ρ = o := by
  simp [evSs, evS, w_esc h he, isOwn, ho, w_esc h2 he2, hk, hr]
theorem w_shi {v : Int} {ps : Pos} (h : ev Φ a ρ = .ok x ρ1) (h2 : ev Φ b ρ1 = .ok y ρ2) (hx : x.look ρ2 = some d) (hy : y.look ρ2 = some (.int v)) (hb : slcM d none (some v) = some r) : ev Φ (.shi a b ps q) ρ = .ok r ρ2 := by
  simp [ev, h, h2, hx, hy, hb, Py.ask]
theorem w_b2 {k : B2} (h : ev Φ a ρ = .ok x ρ1) (h2 : ev Φ b ρ1 = .ok y ρ2) (hx : x.look ρ2 = some d1) (hy : y.look ρ2 = some d2) (hk : b2M k d1 d2 = some r) : ev Φ (.b2 k p a b q) ρ = .ok r ρ2 := by simp [ev, h, h2, hx, hy, hk, Py.ask]
theorem w_lrng {pl pr pi : Pos} (h : ev Φ a ρ = .ok x ρ1) (hx : x.look ρ1 = some d) (hk : lrngM d = some r) : ev Φ (.lrng pl pr a pi p) ρ = .ok r ρ1 := by simp [ev, h, hx, hk, Py.ask]
end
end Py
namespace K11
open PySem Py Cr
theorem lgI {i : Int} (h : -(10 ^ 30) < i) (h2 : i < 10 ^ 30) : i.natAbs.log2 < 100 := by
  by_cases h0 : i.natAbs = 0
  · rw [h0]; decide
  · refine (Nat.log2_lt h0).mpr ?_
    have : (10 : Int) ^ 30 < 2 ^ 100 := by decide +kernel
    have e : ((2 ^ 100 : Nat) : Int) = 2 ^ 100 := by decide +kernel
    omega
theorem bop_mod {i j : Int} (h : 0 < j) : binop .Mod (.int i) (.int j) = some (.dt (.int (i % j))) := by simp [binop, h]
theorem bop_div {i j : Int} (h : 0 < j) (h2 : j < 10 ^ 30) : binop .FloorDiv (.int i) (.int j) = some (.dt (.int (i / j))) := by
  have := lgI (i := j) (by omega) h2
  have h3 : 0 < j ∧ j.natAbs.log2 < 9000 := ⟨h, by omega⟩
  simp [binop, h3]
theorem bop_mul {i j : Int} (h1 : -(10 ^ 30) < i) (h2 : i < 10 ^ 30) (h3 : -(10 ^ 30) < j) (h4 : j < 10 ^ 30) : binop .Mult (.int i) (.int j) = some (.dt (.int (i * j))) := by
  have := lgI h1 h2
  have := lgI h3 h4
  have h : i.natAbs.log2 + j.natAbs.log2 < 1000000 := by omega
  simp only [binop, h, if_true]
theorem bop_pow3 {i : Int} (h1 : -(10 ^ 30) < i) (h2 : i < 10 ^ 30) : binop .Pow (.int i) (.int 3) = some (.dt (.int (i ^ 3))) := by
  have := lgI h1 h2
  have h : Builtin.Int.intBits i ≤ 100 := by
    unfold Builtin.Int.intBits
    split <;> omega
  have h' : (0 : Int) ≤ 3 ∧ (Builtin.Int.intBits i : Int) * 3 ≤ 2 ^ 27 := ⟨by decide, by omega⟩
  simp only [binop, h', if_true]
  rfl
/-- a pot of draws, after so many -/
def PotOk (k : Nat) (ds : List D) : Prop := ∃ a b c : Int, ds = [.int a, .int b, .int c] ∧ 0 ≤ a ∧ 0 ≤ b ∧ b < 2 ^ 62 ∧ 0 ≤ c ∧ c ≤ k
theorem pot_mono {k j : Nat} {ds : List D} (h : PotOk k ds) (hk : k ≤ j) : PotOk j ds := by
  obtain ⟨a, b, c, h1, h2, h3, h4, h5, h6⟩ := h
  exact ⟨a, b, c, h1, h2, h3, h4, h5, by omega⟩
theorem prime_some {r : Int} (h0 : 0 ≤ r) (h1 : r < 5) : ∃ p : Int, idxM (.list [.int 2147483647, .int 2147483629, .int 2147483587, .int 2147483579, .int 2147483563]) (.int r) = some (.dt (.int p)) ∧ 0 < p ∧ p < 2 ^ 31 := by
  have : r = 0 ∨ r = 1 ∨ r = 2 ∨ r = 3 ∨ r = 4 := by omega
  rcases this with e | e | e | e | e <;> subst e
  · exact ⟨2147483647, rfl, by decide, by decide⟩
  · exact ⟨2147483629, rfl, by decide, by decide⟩
  · exact ⟨2147483587, rfl, by decide, by decide⟩
  · exact ⟨2147483579, rfl, by decide, by decide⟩
  · exact ⟨2147483563, rfl, by decide, by decide⟩
theorem take_eq (n k : Nat) {ds : List D} (h : PotOk k ds) (hk : k ≤ 10000) {u : Int} (h0 : 0 < u) (hu : u ≤ 10000) : ∃ (d : Int) (ds' : List D), callN Pm (n + 1) 23 [.own ds, .val (.int u)] = .ok (.val (.int d)) [.own ds'] ∧ PotOk (k + 1) ds' ∧ 0 ≤ d ∧ d < u := by
  obtain ⟨a, b, c, rfl, ha, hb, hb2, hc, hc2⟩ := h
  have hz := Int.emod_nonneg
  by_cases hp : 0 < a
  · refine ⟨a % u, [.int (a / u), .int b, .int c], ?_, ⟨_, _, _, rfl, Int.ediv_nonneg ha (by omega), hb, hb2, hc, by omega⟩, Int.emod_nonneg _ (by omega), Int.emod_lt_of_pos _ h0⟩
    show runFn (Φn n) f23 _ = _
    exact w_run rfl (w_thenR (t_cmp (w_idx (w_own rfl) w_int rfl rfl rfl) w_int rfl rfl ((cmp_gt _ _).trans (by rw [decide_eq_true hp]))) (w_asg (w_bin (w_b1 (w_idx (w_own rfl) w_int rfl rfl rfl) rfl rfl) (w_val rfl) rfl rfl (bop_mod h0)) rfl (w_six (w_bin (w_idx (w_own rfl) w_int rfl rfl rfl) (w_val rfl) rfl rfl (bop_div h0 (by omega))) rfl rfl w_int rfl rfl (w_ret (w_val rfl))))) rfl
  · have c1 : 0 ≤ 98554 * (c + 1) ∧ 98554 * (c + 1) ≤ 98554 * 10001 := by omega
    have c2 : 0 ≤ 98554 * (c + 1) * (c + 1) := Int.mul_nonneg c1.1 (by omega)
    have c3 : 98554 * (c + 1) * (c + 1) ≤ 98554 * 10001 * 10001 := Int.mul_le_mul c1.2 (by omega) (by omega) (by decide)
    have e31 : (2 : Int) ^ 31 = 2147483648 := by decide
    have e62 : (2 : Int) ^ 62 = 4611686018427387904 := by decide
    have e30 : (10 : Int) ^ 30 = 1000000000000000000000000000000 := by decide
    obtain ⟨P, p1, p2, p3⟩ := prime_some (Int.emod_nonneg (c + 1) (by decide)) (Int.emod_lt_of_pos (c + 1) (by decide : (0 : Int) < 5))
    have m1 := Int.emod_nonneg ((b + 98554 * (c + 1) * (c + 1) + 80) ^ 3) (show P ≠ 0 by omega)
    have m2 := Int.emod_lt_of_pos ((b + 98554 * (c + 1) * (c + 1) + 80) ^ 3) p2
    have m3 := Int.emod_nonneg ((b + 98554 * (c + 1) * (c + 1) + 80) ^ 3 % P) (show (10029 : Int) ≠ 0 by decide)
    have m4 := Int.emod_lt_of_pos ((b + 98554 * (c + 1) * (c + 1) + 80) ^ 3 % P) (show (0 : Int) < 10029 by decide)
    refine ⟨(((b + 98554 * (c + 1) * (c + 1) + 80) ^ 3 % P * ((b + 98554 * (c + 1) * (c + 1) + 80) ^ 3 % P % 10029 + 114 * (c + 1))) % 2305843009213693907) / 149 % u, [.int a, .int b, .int (c + 1)], ?_, ⟨_, _, _, rfl, ha, hb, hb2, by omega, by omega⟩, Int.emod_nonneg _ (by omega), Int.emod_lt_of_pos _ h0⟩
    show runFn (Φn n) f23 _ = _
    refine w_run (r := .dt (.int (((((b + 98554 * (c + 1) * (c + 1) + 80) ^ 3 % P) * (((b + 98554 * (c + 1) * (c + 1) + 80) ^ 3 % P) % 10029 + 114 * (c + 1))) % 2305843009213693907) / 149 % u))) (ρ := [.own [.int a, .int b, .int (c + 1)], .val (.int u), .no, .val (.int P), .val (.int ((((b + 98554 * (c + 1) * (c + 1) + 80) ^ 3 % P) * (((b + 98554 * (c + 1) * (c + 1) + 80) ^ 3 % P) % 10029 + 114 * (c + 1))) % 2305843009213693907))]) rfl (w_skip (t_cmp (w_idx (w_own rfl) w_int rfl rfl rfl) w_int rfl rfl ((cmp_gt _ _).trans (by rw [decide_eq_false hp]))) (w_six (w_bin (w_idx (w_own rfl) w_int rfl rfl rfl) w_int rfl rfl rfl) rfl rfl w_int rfl rfl ?_)) rfl
    refine w_asg (w_idx (w_lst (w_evs w_int rfl (w_evs w_int rfl (w_evs w_int rfl (w_evs w_int rfl (w_evs w_int rfl w_evs_nil))))) (sl_ok (show 5 ≤ 100000 by decide))) (w_bin (w_b1 (w_idx (w_own rfl) w_int rfl rfl rfl) rfl rfl) w_int rfl rfl (bop_mod (by decide))) rfl rfl p1) rfl ?_
    refine w_asg (w_bin (w_b1 (w_bin (w_b1 (w_bin (w_bin (w_idx (w_own rfl) w_int rfl rfl rfl) (w_bin (w_bin w_int (w_idx (w_own rfl) w_int rfl rfl rfl) rfl rfl (bop_mul (by omega) (by omega) (by omega) (by omega))) (w_idx (w_own rfl) w_int rfl rfl rfl) rfl rfl (bop_mul (by omega) (by omega) (by omega) (by omega))) rfl rfl rfl) w_int rfl rfl rfl) rfl rfl) w_int rfl rfl (bop_pow3 (by omega) (by omega))) rfl rfl) (w_val rfl) rfl rfl (bop_mod p2)) rfl ?_
    refine w_asg (w_bin (w_b1 (w_bin (w_val rfl) (w_bin (w_bin (w_b1 (w_val rfl) rfl rfl) w_int rfl rfl (bop_mod (by decide))) (w_bin w_int (w_idx (w_own rfl) w_int rfl rfl rfl) rfl rfl (bop_mul (by omega) (by omega) (by omega) (by omega))) rfl rfl rfl) rfl rfl (bop_mul (by omega) (by omega) (by omega) (by omega))) rfl rfl) w_int rfl rfl (bop_mod (by decide))) rfl ?_
    exact w_ret (w_bin (w_b1 (w_bin (w_val rfl) w_int rfl rfl (bop_div (by decide) (by decide))) rfl rfl) (w_val rfl) rfl rfl (bop_mod h0))
end K11
end
section
set_option Elab.async false
set_option linter.all false
set_option autoImplicit false
set_option maxRecDepth 100000
/-! Rules: errors, defs as values, repr, draws inside comprehensions' tests. -/
namespace Py
open PySem
section
variable {Φ : Fx} {io : List Nat} {ρ ρ1 ρ2 ρ3 ρ4 ρ5 : Fr} {a b c e : E} {x y z r : R} {d d1 d2 d3 : D} {ds es ks : List D} {p q : Pos} {i C : Nat} {s : Str}
theorem w_fnv {f : Nat} : ev Φ (.fnv s f p) ρ = .ok (.dt (fnD f)) ρ := by simp [ev]
theorem w_isx {px pt : Pos} (h : ev Φ a ρ = .ok x ρ1) (hl : x.look ρ1 = some (exD C d)) : ev Φ (.isx px a s C pt p) ρ = .ok (.dt (.bool true)) ρ1 := by simp [ev, h, hl, isxM, exD, Py.ask]
theorem t_isx {px pt : Pos} (h : ev Φ a ρ = .ok x ρ1) (hl : x.look ρ1 = some (exD C d)) : tst Φ (.isx px a s C pt p) ρ = .ok true ρ1 := by
  show tstV _ = _
  rw [h]
  have e : isxM C (exD C d) = some (.dt (.bool true)) := by simp [isxM, exD]
  simp only [Out.bind_ok, hl, Option.bind_some, e]
  rfl
theorem w_attr {Cs : List Nat} (h : ev Φ a ρ = .ok x ρ1) (hl : x.look ρ1 = some (exD C d)) (hC : C ∈ Cs) : ev Φ (.attr Cs a p) ρ = .ok (.dt d) ρ1 := by
  have : (Cs.any fun c => decide ((C : Int) = (c : Int))) = true := List.any_eq_true.mpr ⟨C, hC, decide_eq_true rfl⟩
  simp [ev, h, hl, attrM, exD, Py.ask, this]
theorem w_rep {px : Pos} (h : ev Φ a ρ = .ok x ρ1) (hl : x.look ρ1 = some d) (ho : showOk d = true) : ev Φ (.rep px a p) ρ = .ok (.dt (.str d.shown)) ρ1 := by simp [ev, h, hl, repM, ho, Py.ask]
theorem w_rept {t : R} (h : ev Φ a ρ = .ok x ρ1) (h2 : ev Φ b ρ1 = .ok y ρ2) (hx : x.look ρ2 = some d1) (hy : y.look ρ2 = some d2) (hk : reptM d1 d2 = some t) : ev Φ (.rept a b p) ρ = .ok t ρ2 := by simp [ev, h, h2, hx, hy, hk, Py.ask]
theorem w_trng {pl pr pi : Pos} (h : ev Φ a ρ = .ok x ρ1) (hx : x.look ρ1 = some d) (hk : trngM d = some r) : ev Φ (.trng pl pr a pi p) ρ = .ok r ρ1 := by simp [ev, h, hx, hk, Py.ask]
theorem w_enm {px : Pos} (h : ev Φ a ρ = .ok x ρ1) (he : x.esc ρ1 = .ok (.list ds) ρ2) : evSr Φ (.enm px a p) ρ = .ok (enumD ds) ρ2 := by simp [evSr, w_esc h he]
theorem w_heardX {Cs : List Nat} {px pl : Pos} {sc : Scope} (h : ev Φ b (hideF ρ) = .ex C d) (hC : C ∈ Cs) : ev Φ (.heard Cs px b sc pl p) ρ = .ok (.dt (.tuple [exD C d, .none])) ρ := by
  have : Cs.contains C = true := List.contains_iff_mem.mpr hC
  simp [ev, heardM, h, hC]
theorem w_callv2 {n : Str} {px : Pos} {tb : List (Nat × Nat × Str)} {f g : Nat} {nm : Str} {o : Out R} (hf : ρ[i]? = some (.val (fnD f))) (ht : (tb.find? fun e => e.1 == f) = some (f, g, nm)) (ho : ev Φ (.call g n px (.cons a (.cons b .nil)) p) ρ = o) : ev Φ (.callv i s px tb (.cons a (.cons b .nil)) p) ρ = o := by
  rw [← ho]
  simp [ev, hf, fnA, fnD, ht]
/-! errors on their way -/
theorem x_call1 {f : Nat} {n : Str} (hm : Φ.md f = [false]) (h : ev Φ a ρ = .ok x ρ1) (he : x.esc ρ1 = .ok d ρ2) (hc : Φ.call f [.val d] = .ex C d1) : ev Φ (.call f n p (.cons a .nil) q) ρ = .ex C d1 := by
  simp [ev, evr, h, callM, hm, prep, he, hc]
theorem x_call2 {f : Nat} {n : Str} (hm : Φ.md f = [false, false]) (h : ev Φ a ρ = .ok x ρ1) (h2 : ev Φ b ρ1 = .ok y ρ2) (he : x.esc ρ2 = .ok d1 ρ3) (he2 : y.esc ρ3 = .ok d2 ρ4) (hc : Φ.call f [.val d1, .val d2] = .ex C d) : ev Φ (.call f n p (.cons a (.cons b .nil)) q) ρ = .ex C d := by
  simp [ev, evr, h, h2, callM, hm, prep, he, he2, hc]
theorem x_call3 {f : Nat} {n : Str} {ρ6 : Fr} (hm : Φ.md f = [false, false, false]) (h : ev Φ a ρ = .ok x ρ1) (h2 : ev Φ b ρ1 = .ok y ρ2) (h3 : ev Φ c ρ2 = .ok z ρ3) (he : x.esc ρ3 = .ok d1 ρ4) (he2 : y.esc ρ4 = .ok d2 ρ5) (he3 : z.esc ρ5 = .ok d3 ρ6) (hc : Φ.call f [.val d1, .val d2, .val d3] = .ex C d) :
    ev Φ (.call f n p (.cons a (.cons b (.cons c .nil))) q) ρ = .ex C d := by
  simp [ev, evr, h, h2, h3, callM, hm, prep, he, he2, he3, hc]
theorem x_b1 {k : B1} (h : ev Φ a ρ = .ex C d) : ev Φ (.b1 k p a q) ρ = .ex C d := by simp [ev, h]
theorem x_bo {cc : Bool} {rs : Es} (h : ev Φ a ρ = .ex C d) : ev Φ (.bo cc a rs p) ρ = .ex C d := by simp [ev, h]
theorem x_exp {rest : Ss} (h : ev Φ e ρ = .ex C d) : evSs Φ io (.cons (.exp e p) rest) ρ = .ex C d := by simp [evSs, evS, h]
theorem x_asg {n : Str} {rest : Ss} (h : ev Φ e ρ = .ex C d) : evSs Φ io (.cons (.asg i n p e q) rest) ρ = .ex C d := by simp [evSs, evS, h]
theorem x_ret {rest : Ss} (h : ev Φ e ρ = .ex C d) : evSs Φ io (.cons (.ret e p) rest) ρ = .ex C d := by simp [evSs, evS, h]
theorem x_rse {n : Str} {px pc : Pos} {rest : Ss} (h : ev Φ e ρ = .ok x ρ1) (he : x.esc ρ1 = .ok d ρ2) : evSs Φ io (.cons (.rse n C px e pc p) rest) ρ = .ex C d := by simp [evSs, evS, w_esc h he]
theorem x_then {A B rest : Ss} (h : tst Φ c ρ = .ok true ρ1) (hA : evSs Φ io A ρ1 = .ex C d) : evSs Φ io (.cons (.iff c A B p) rest) ρ = .ex C d := w_then h (by rw [hA]; rfl)
theorem x_for {t : Tg} {src : Sr} {body rest : Ss} (ht : t.slots.any io.contains = false) (hs : evSr Φ src ρ = .ok ds ρ1) (hf : forLoop t.put (evSs Φ io body) ds ρ1 = .ex C d) : evSs Φ io (.cons (.for_ t src body p) rest) ρ = .ex C d := by
  simp only [evSs, evS, ht, hs, Out.toS_ok, hf, SO.thn_ex, Bool.false_eq_true, if_false]
theorem x_run {fn : Fn} {args : List Sl} (hl : args.length = fn.np) (hm : fn.md.all (!·) = true) (h : evSs Φ (ioOf 0 fn.md) fn.body (args ++ List.replicate (fn.nn - fn.np) .no) = .ex C d) : runFn Φ fn args = .ex C d := by simp only [runFn, hl, h, hm, if_true]
theorem x_slen (h : ev Φ a ρ = .ex C d) : evSr Φ (.e a) ρ = .ex C d := by simp [evSr, escM, h]
theorem x_comp {t : Tg} {src : Sr} {ifs : Option E} {sc : Scope} {own : List (Str × Nat)} (h : evSr Φ src ρ = .ex C d) : ev Φ (.comp e t src ifs sc own p) ρ = .ex C d := by cases ifs <;> simp [ev, compM, h]
/-! comprehensions whose tests change the frame -/
theorem compLoop_ts {slots : List Nat} {put : D → Fr → Option Fr} {tst : Fr → Out Bool} {elt : Fr → Out D} (J : Nat → Fr → Prop) (g : D → D) : ∀ (ds acc : List D) (k : Nat) (ρ : Fr), J k ρ → acc.length + ds.length ≤ sizeLine →
    (∀ j d ρ, k ≤ j → j < k + ds.length → d ∈ ds → J j ρ → ∃ ρ1 ρ2 v, put d (wipeF ρ slots) = some ρ1 ∧ tst ρ1 = .ok v ρ2 ∧ J (j + 1) ρ2 ∧ (v = true → elt ρ2 = .ok (g d) ρ2)) →
    ∃ (es : List D) (ρ' : Fr), compLoop slots put tst elt ds acc ρ = .ok (acc ++ es.map g) ρ' ∧ es.Sublist ds ∧ J (k + ds.length) ρ'
  | [], acc, k, ρ, hj, _, _ => ⟨[], ρ, by simp [compLoop], .slnil, hj⟩
  | d :: ds, acc, k, ρ, hj, hl, h => by
    have hl' : acc.length + (ds.length + 1) ≤ sizeLine := hl
    obtain ⟨ρ1, ρ2, v, h1, h2, h3, h4⟩ := h k d ρ (Nat.le_refl _) (by simp) List.mem_cons_self hj
    have rest := fun j x ρ (a : k + 1 ≤ j) (b : j < k + 1 + ds.length) (c : x ∈ ds) => h j x ρ (by omega) (by simp only [List.length_cons]; omega) (List.mem_cons_of_mem _ c)
    cases v with
    | false =>
      obtain ⟨es, ρ', e, p1, p2⟩ := compLoop_ts J g ds acc (k + 1) ρ2 h3 (by omega) rest
      refine ⟨es, ρ', ?_, p1.cons _, by rw [List.length_cons, show k + (ds.length + 1) = k + 1 + ds.length by omega]; exact p2⟩
      rw [compLoop, h1]
      simp only [h2, Out.bindN_ok, Bool.false_eq_true, if_false]
      exact e
    | true =>
      obtain ⟨es, ρ', e, p1, p2⟩ := compLoop_ts J g ds (acc ++ [g d]) (k + 1) ρ2 h3 (by rw [List.length_append, List.length_singleton]; omega) rest
      refine ⟨d :: es, ρ', ?_, p1.cons₂ _, by rw [List.length_cons, show k + (ds.length + 1) = k + 1 + ds.length by omega]; exact p2⟩
      rw [compLoop, h1]
      simp only [h2, Out.bindN_ok, if_true, h4 rfl]
      rw [if_pos (by omega), e, List.map_cons, List.append_assoc]
      rfl
theorem w_cts {t : Tg} {src : Sr} {sc : Scope} {own : List (Str × Nat)} {ρ0 : Fr} (J : Nat → Fr → Prop) (g : D → D) (hs : evSr Φ src ρ0 = .ok ds ρ) (hp : plainSlots (own.map (·.2)) ρ = true) (hl : ds.length ≤ sizeLine) (hj : J 0 ρ)
    (h : ∀ j d ρ, j < ds.length → d ∈ ds → J j ρ → ∃ ρ1 ρ2 v, t.put d (wipeF ρ (own.map (·.2))) = some ρ1 ∧ tst Φ c ρ1 = .ok v ρ2 ∧ J (j + 1) ρ2 ∧ (v = true → escM (ev Φ e ρ2) = .ok (g d) ρ2)) :
    ∃ (es : List D) (ρ' : Fr), ev Φ (.comp e t src (some c) sc own p) ρ0 = .ok (.new (es.map g)) (unwipe ρ (wipeF ρ' (own.map (·.2))) (own.map (·.2))) ∧ es.Sublist ds ∧ J ds.length ρ' := by
  obtain ⟨es, ρ', e1, p1, p2⟩ := compLoop_ts (slots := own.map (·.2)) (put := t.put) (tst := fun ρ => tst Φ c ρ) (elt := fun ρ => escM (ev Φ e ρ)) J g ds [] 0 ρ hj (by simpa using hl) fun j d ρ _ b c => h j d ρ (by omega) c
  refine ⟨es, ρ', ?_, p1, by simpa using p2⟩
  simp only [ev, compM, hs, Out.bind_ok, hp, if_true, e1, List.nil_append]
end
end Py
end
section
set_option Elab.async false
set_option linter.all false
set_option autoImplicit false
set_option maxRecDepth 100000
namespace K11
open PySem Py Cr
/-- no number of parts from a to b -/
def BadN (a b : Int) (d : D) : Prop := d = .none ∨ (∃ x, d = .bool x) ∨ ∃ i, d = .int i ∧ ¬ (a ≤ i ∧ i ≤ b)
theorem integer_ff (n : Nat) {d : D} (h : d = .none ∨ ∃ x, d = .bool x) : callN Pm (n + 1) 0 [.val d] = .ok (.val (.bool false)) [] := by
  show runFn (Φn n) f0 _ = _
  rcases h with rfl | ⟨x, rfl⟩
  · exact w_run rfl (w_ret (w_bo (w_isi (w_val rfl) rfl (isi_fine rfl)) (bo_stop (cc := true) rfl))) rfl
  · exact w_run rfl (w_ret (w_bo (w_isi (w_val rfl) rfl (isi_fine rfl)) (bo_go rfl (w_nt (w_isi (w_val rfl) rfl (isi_fine rfl)) rfl) bo_nil))) rfl
theorem between_ff (n : Nat) {d : D} {a b : Int} (h : BadN a b d) : callN Pm (n + 2) 1 [.val d, .val (.int a), .val (.int b)] = .ok (.val (.bool false)) [] := by
  show runFn (Φn (n + 1)) f1 _ = _
  rcases h with h | h | ⟨i, rfl, h⟩
  · exact w_run rfl (w_ret (w_bo (w_call1 rfl (w_val rfl) rfl (integer_ff n (.inl h)) rfl) (bo_stop (cc := true) rfl))) rfl
  · exact w_run rfl (w_ret (w_bo (w_call1 rfl (w_val rfl) rfl (integer_ff n (.inr h)) rfl) (bo_stop (cc := true) rfl))) rfl
  · by_cases h1 : a ≤ i
    · have h2 : ¬ i ≤ b := fun z => h ⟨h1, z⟩
      exact w_run rfl (w_ret (w_bo (w_call1 rfl (w_val rfl) rfl (integer_eq n i) rfl) (bo_go rfl (w_cmp2 (w_val rfl) (w_val rfl) (w_val rfl) rfl rfl rfl rfl ((cmp_le a i).trans (by rw [decide_eq_true h1])) ((cmp_le i b).trans (by rw [decide_eq_false h2]))) bo_nil))) rfl
    · exact w_run rfl (w_ret (w_bo (w_call1 rfl (w_val rfl) rfl (integer_eq n i) rfl) (bo_go rfl (w_cmp2f (w_val rfl) (w_val rfl) rfl rfl ((cmp_le a i).trans (by rw [decide_eq_false h1]))) bo_nil))) rfl
theorem many_ff (n : Nat) {d : D} (h : BadN 0 40 d) : callN Pm (n + 3) 9 [.val d] = .ok (.val (.bool false)) [] := by
  show runFn (Φn (n + 2)) f9 _ = _
  exact w_run rfl (w_ret (w_call3 rfl (w_val rfl) w_int w_glI rfl rfl rfl (between_ff n h) rfl)) rfl
theorem checkmany_ex (n : Nat) {d : D} (h : BadN 0 40 d) : callN Pm (n + 4) 10 [.val d] = .ex 111 d := by
  show runFn (Φn (n + 3)) f10 _ = _
  exact x_run rfl rfl (x_then (t_nt (k := false) (t_call (w_call1 rfl (w_val rfl) rfl (many_ff n h) rfl) rfl)) (x_rse (w_val rfl) rfl))
theorem checklots_exM (n : Nat) {d x : D} (h : BadN 0 40 d) : callN Pm (n + 5) 12 [.val x, .val d] = .ex 111 d := by
  show runFn (Φn (n + 4)) f12 _ = _
  exact x_run rfl rfl (x_exp (x_call1 rfl (w_val rfl) rfl (checkmany_ex n h)))
/-! lots that are none -/
theorem tuple_ff (n : Nat) {d : D} (hf : fine d = true) (ht : Ty.tuple.has d = false) (a b : Int) : callN Pm (n + 1) 2 [.val d, .val (.int a), .val (.int b)] = .ok (.val (.bool false)) [] := by
  show runFn (Φn n) f2 _ = _
  exact w_run rfl (w_ret (w_bo (w_isi (w_val rfl) rfl ((isi_fine hf).trans (by rw [ht]))) (bo_stop (cc := true) rfl))) rfl
theorem tuple_ff2 (n : Nat) (ds : List D) (hf : fine (.tuple ds) = true) (b : Int) (h2 : ¬ (ds.length : Int) ≤ b) : callN Pm (n + 1) 2 [.val (.tuple ds), .val (.int 0), .val (.int b)] = .ok (.val (.bool false)) [] := by
  show runFn (Φn n) f2 _ = _
  exact w_run rfl (w_ret (w_bo (w_isi (w_val rfl) rfl (isi_fine hf)) (bo_go rfl (w_cmp2 (w_val rfl) (w_b1 (w_val rfl) rfl rfl) (w_val rfl) rfl rfl rfl rfl ((cmp_le 0 ds.length).trans (by rw [decide_eq_true (by omega)])) ((cmp_le ds.length b).trans (by rw [decide_eq_false h2]))) bo_nil))) rfl
theorem lot_ff (n : Nat) {d : D} (m : Int) (hf : fine d = true) (ht : Ty.tuple.has d = false) : callN Pm (n + 1) 4 [.val d, .val (.int m)] = .ok (.val (.bool false)) [] := by
  show runFn (Φn n) f4 _ = _
  exact w_run rfl (w_thenR (t_bo (k := true) (t_nt (t_isi (v := false) (w_val rfl) rfl ((isi_fine hf).trans (by rw [ht])))) (tb_stop (cc := false))) (w_ret w_bl)) rfl
theorem lot_ff1 (n : Nat) {d : D} (m : Int) (hf : fine (.tuple [d]) = true) (h : BadN 0 (m - 1) d) : callN Pm (n + 3) 4 [.val (.tuple [d]), .val (.int m)] = .ok (.val (.bool false)) [] := by
  show runFn (Φn (n + 2)) f4 _ = _
  refine w_run rfl (w_thenR (t_bo (k := false) (t_nt (t_isi (v := true) (w_val rfl) rfl (isi_fine hf))) (tb_go (k := true) (t_nt (t_b1 (v := false) (w_b1 (r := .dt (.bool false)) (w_map (ds := [d]) (fun _ => .bool false) (w_slen (w_val rfl) rfl rfl) rfl rfl (sl_ok (show 1 ≤ 100000 by decide)) fun x hx => ?_) rfl rfl) rfl)) tb_nil)) (w_ret w_bl)) rfl
  rw [List.mem_singleton.mp hx]
  exact ⟨_, rfl, w_esc (w_call3 rfl (w_val rfl) w_int (w_bin (w_val rfl) w_int rfl rfl rfl) rfl rfl rfl (between_ff n h) rfl) rfl, rfl⟩
theorem ascending_00 (n : Nat) : callN Pm (n + 1) 3 [.val (tD [0, 0])] = .ok (.val (.bool false)) [] := by
  show runFn (Φn n) f3 _ = _
  refine w_run rfl (w_ret (w_b1 (r := .dt (.bool false)) (w_map (ds := [PyData.tuple [.int 0, .int 0]]) (fun _ => .bool false) ((w_zip (w_val rfl) rfl (w_slo (w_val rfl) w_int rfl rfl (cut1 _)) rfl).trans rfl) rfl rfl (sl_ok (show 1 ≤ 100000 by decide)) fun d hd => ?_) rfl rfl)) rfl
  rw [List.mem_singleton.mp hd]
  exact ⟨_, rfl, w_esc (w_cmp (w_val rfl) (w_val rfl) rfl rfl (cmp_lt 0 0)) rfl, rfl⟩
theorem lot_ff00 (n : Nat) (m : Int) (h : 1 ≤ m) : callN Pm (n + 3) 4 [.val (tD [0, 0]), .val (.int m)] = .ok (.val (.bool false)) [] := by
  show runFn (Φn (n + 2)) f4 _ = _
  refine w_run rfl (w_skip (t_bo (k := false) (t_nt (t_isi (v := true) (w_val rfl) rfl (isi_fine (fine_tD _)))) (tb_go (k := false) (t_nt (t_b1 (v := true) (w_b1 (r := .dt (.bool true)) (w_map (ds := [PyData.int 0, .int 0]) (fun _ => .bool true) (w_slen (w_val rfl) rfl rfl) rfl rfl (sl_ok (show 2 ≤ 100000 by decide)) fun d hd => ?_) rfl rfl) rfl)) tb_nil)) (w_ret (w_call1 rfl (w_val rfl) rfl (ascending_00 (n + 1)) rfl))) rfl
  have e : d = .int 0 := by simpa using hd
  subst e
  exact ⟨_, rfl, w_esc (w_call3 rfl (w_val rfl) w_int (w_bin (w_val rfl) w_int rfl rfl rfl) rfl rfl rfl (between_eq n 0 0 (m - 1) (by omega) (by omega)) rfl) rfl, rfl⟩
/-- no lots of m parts -/
inductive BadLs (m : Int) : D → Prop
  | tup {d : D} : fine d = true → Ty.tuple.has d = false → BadLs m d
  | many {ds : List D} : fine (.tuple ds) = true → 400 < ds.length → BadLs m (.tuple ds)
  | one {d : D} : fine (.tuple [d]) = true → fine d = true → (∀ n, callN Pm (n + 3) 4 [.val d, .val (.int m)] = .ok (.val (.bool false)) []) → BadLs m (.tuple [d])
theorem arelots_ff (n : Nat) {m : Int} {d : D} (h : BadLs m d) : callN Pm (n + 4) 11 [.val d, .val (.int m)] = .ok (.val (.bool false)) [] := by
  show runFn (Φn (n + 3)) f11 _ = _
  cases h with
  | tup hf ht => exact w_run rfl (w_ret (w_bo (w_call3 rfl (w_val rfl) w_int w_glI rfl rfl rfl (tuple_ff (n + 2) hf ht 0 400) rfl) (bo_stop (cc := true) rfl))) rfl
  | many hf hl => exact w_run rfl (w_ret (w_bo (w_call3 rfl (w_val rfl) w_int w_glI rfl rfl rfl (tuple_ff2 (n + 2) _ hf 400 (by omega)) rfl) (bo_stop (cc := true) rfl))) rfl
  | @one d hf hd hc =>
    refine w_run rfl (w_ret (w_bo (w_call3 rfl (w_val rfl) w_int w_glI rfl rfl rfl (tuple_eq (n + 2) [d] hf 0 400 (by simp) (by simp)) rfl) (bo_go rfl (w_b1 (r := .dt (.bool false)) (w_map (ds := [d]) (fun _ => .bool false) (w_slen (w_val rfl) rfl rfl) rfl rfl (sl_ok (show 1 ≤ 100000 by decide)) fun x hx => ?_) rfl rfl) bo_nil))) rfl
    rw [List.mem_singleton.mp hx]
    exact ⟨_, rfl, w_esc (w_call2 rfl (w_val rfl) (w_val rfl) rfl rfl (hc n) rfl) rfl, rfl⟩
theorem checklots_ex (n : Nat) {m : Int} {d : D} (hm : 0 ≤ m) (hm2 : m ≤ 40) (h : BadLs m d) : callN Pm (n + 5) 12 [.val d, .val (.int m)] = .ex 123 d := by
  show runFn (Φn (n + 4)) f12 _ = _
  exact x_run rfl rfl (w_exp (w_call1 rfl (w_val rfl) rfl (checkmany_eq n m hm hm2) rfl) (x_then (t_nt (k := false) (t_call (w_call2 rfl (w_val rfl) (w_val rfl) rfl rfl (arelots_ff n h) rfl) rfl)) (x_rse (w_val rfl) rfl)))
/-! what is refused at the gate is refused by each -/
section
variable {n C : Nat} {x y d : D}
theorem ex16 (h : callN Pm n 12 [.val x, .val y] = .ex C d) : callN Pm (n + 1) 16 [.val x, .val y] = .ex C d := by
  show runFn (Φn n) f16 _ = _
  exact x_run rfl rfl (x_exp (x_call2 rfl (w_val rfl) (w_val rfl) rfl rfl h))
theorem ex19 (h : callN Pm n 12 [.val x, .val y] = .ex C d) : callN Pm (n + 2) 19 [.val x, .val y] = .ex C d := by
  show runFn (Φn (n + 1)) f19 _ = _
  exact x_run rfl rfl (x_asg (x_call2 rfl (w_val rfl) (w_val rfl) rfl rfl (ex16 h)))
theorem ex20 (h : callN Pm n 12 [.val x, .val y] = .ex C d) : callN Pm (n + 1) 20 [.val x, .val y] = .ex C d := by
  show runFn (Φn n) f20 _ = _
  exact x_run rfl rfl (x_exp (x_call2 rfl (w_val rfl) (w_val rfl) rfl rfl h))
theorem ex17 {t : D} {m : Int} (h : callN Pm (n + 3) 12 [.val x, .val (.int m)] = .ok (.val .none) []) (hc : callN Pm (n + 3) 4 [.val t, .val (.int m)] = .ok (.val (.bool false)) []) : callN Pm (n + 4) 17 [.val x, .val (.int m), .val t] = .ex 99 t := by
  show runFn (Φn (n + 3)) f17 _ = _
  exact x_run rfl rfl (w_exp (w_call2 rfl (w_val rfl) (w_val rfl) rfl rfl h rfl) (x_then (t_nt (k := false) (t_call (w_call2 rfl (w_val rfl) (w_val rfl) rfl rfl hc rfl) rfl)) (x_rse (w_val rfl) rfl)))
theorem ex18 {t : D} {m : Int} (h : callN Pm n 17 [.val x, .val (.int m), .val t] = .ex C d) : callN Pm (n + 1) 18 [.val x, .val (.int m), .val t] = .ex C d := by
  show runFn (Φn n) f18 _ = _
  exact x_run rfl rfl (x_ret (x_bo (x_call3 rfl (w_val rfl) (w_val rfl) (w_val rfl) rfl rfl rfl h)))
theorem ex21 {t : D} {m : Int} (h : callN Pm (n + 2) 12 [.val x, .val (.int m)] = .ok (.val .none) []) (hb : BadN 0 m t) : callN Pm (n + 3) 21 [.val x, .val (.int m), .val t] = .ex 135 t := by
  show runFn (Φn (n + 2)) f21 _ = _
  exact x_run rfl rfl (w_exp (w_call2 rfl (w_val rfl) (w_val rfl) rfl rfl h rfl) (x_then (t_nt (k := false) (t_call (w_call3 rfl (w_val rfl) w_int (w_val rfl) rfl rfl rfl (between_ff n hb) rfl) rfl)) (x_rse (w_val rfl) rfl)))
end
/-! does_cross, is_least_crossing of any lot -/
theorem doescross_any (n : Nat) {m : Int} {L : List Lot} (h : Good m L) {t : Lot} (ht : Lt m t) : callN Pm (n + 6) 17 [.val (.tuple (L.map tD)), .val (.int m), .val (tD t)] = .ok (.val (.bool (L.all fun l => meetB t l))) [] := by
  show runFn (Φn (n + 5)) f17 _ = _
  have hl : ∀ l ∈ L, l.length ≤ 40 := fun l hx => lt_len h.m1 (h.lot l hx)
  have tl := lt_len h.m1 ht
  have hn := h.len
  refine w_run rfl (w_exp (w_call2 rfl (w_val rfl) (w_val rfl) rfl rfl (checklots_eq n L m h.m0 h.m1 h.len fun l hx => ⟨h.lot l hx, by have := hl l hx; omega⟩) rfl) (w_skip (t_nt (k := true) (t_call (w_call2 rfl (w_val rfl) (w_val rfl) rfl rfl (lot_eq (n + 2) t m (by omega) ht) rfl) rfl)) (w_ret (w_b1 (r := .dt (.bool (L.all fun l => meetB t l))) (w_map (ds := L.map tD) (fun d => .bool (meetB t (unT d))) (w_slen (w_val rfl) rfl rfl) rfl rfl (len_ok _ (by omega)) fun d hd => ?_) rfl ?_)))) rfl
  · obtain ⟨l, hi, rfl⟩ := List.mem_map.mp hd
    rw [unT_tD]
    exact ⟨_, rfl, w_esc (w_call2 rfl (w_val rfl) (w_val rfl) rfl rfl (meets_eq (n + 4) t l (by omega)) rfl) rfl, rfl⟩
  · rw [List.map_map]
    exact (congrArg (fun q => b1M .all (.list q)) (List.map_congr_left fun l _ => by simp [unT_tD])).trans (b1_all (fun l => meetB t l) L)
theorem isleast_any (n : Nat) {m : Int} {L : List Lot} (h : Good m L) {t : Lot} (ht : Lt m t) : callN Pm (n + 7) 18 [.val (.tuple (L.map tD)), .val (.int m), .val (tD t)] = .ok (.val (.bool ((L.all fun l => meetB t l) && t.all fun x => aloneB t x L))) [] := by
  show runFn (Φn (n + 6)) f18 _ = _
  have tl := lt_len h.m1 ht
  have hn := h.len
  cases hb : (L.all fun l => meetB t l) with
  | false => exact w_run rfl (w_ret (w_bo (w_call3 rfl (w_val rfl) (w_val rfl) (w_val rfl) rfl rfl rfl ((doescross_any n h ht).trans (by rw [hb])) rfl) (bo_stop (cc := true) rfl))) rfl
  | true =>
    refine w_run rfl (w_ret (w_bo (w_call3 rfl (w_val rfl) (w_val rfl) (w_val rfl) rfl rfl rfl ((doescross_any n h ht).trans (by rw [hb])) rfl) (bo_go rfl (w_b1 (r := .dt (.bool (t.all fun x => aloneB t x L))) (w_map (ds := t.map PyData.int) (fun d => .bool (aloneB t (decI d) L)) (w_slen (w_val rfl) rfl rfl) rfl rfl (len_ok _ (by omega)) fun d hd => ?_) rfl ?_) bo_nil))) (by simp; rfl)
    · obtain ⟨x, hx, rfl⟩ := List.mem_map.mp hd
      exact ⟨_, rfl, w_esc (w_call3 rfl (w_val rfl) (w_val rfl) (w_val rfl) rfl rfl rfl (alone_eq (n + 5) t x L (by omega) (by omega)) rfl) rfl, rfl⟩
    · rw [List.map_map]
      exact b1_all (fun x => aloneB t x L) t
end K11
end
section
set_option Elab.async false
set_option linter.all false
set_option autoImplicit false
set_option maxRecDepth 100000
namespace Py
open PySem
section
variable {Φ : Fx} {io : List Nat} {ρ ρ1 ρ2 ρ3 ρ4 ρ5 : Fr} {a b c e : E} {x y z r : R} {d d1 d2 d3 : D} {ds es ks : List D} {p q : Pos} {i : Nat} {s : Str}
/-- a call that is handed a list of its own: first, then a value; then two -/
theorem w_callO2 {f : Nat} {n : Str} {o w : Sl} (hm : Φ.md f = [true, false]) (h : ev Φ a ρ = .ok (.sl i) ρ) (h2 : ev Φ b ρ = .ok y ρ1) (ho : ρ1[i]? = some (.own ds)) (he : y.esc (ρ1.set i .no) = .ok d2 ρ2) (hc : Φ.call f [.own ds, .val d2] = .ok w [o]) (hw : ofSl w = some r) : ev Φ (.call f n p (.cons a (.cons b .nil)) q) ρ = .ok r (ρ2.set i o) := by
  simp [ev, evr, h, h2, callM, hm, prep, ho, he, hc, back, hw]
theorem w_callO3 {f : Nat} {n : Str} {o w : Sl} (hm : Φ.md f = [true, false, false]) (h : ev Φ a ρ = .ok (.sl i) ρ) (h2 : ev Φ b ρ = .ok y ρ1) (h3 : ev Φ c ρ1 = .ok z ρ2) (ho : ρ2[i]? = some (.own ds)) (he : y.esc (ρ2.set i .no) = .ok d1 ρ3) (he2 : z.esc ρ3 = .ok d2 ρ4) (hc : Φ.call f [.own ds, .val d1, .val d2] = .ok w [o]) (hw : ofSl w = some r) : ev Φ (.call f n p (.cons a (.cons b (.cons c .nil))) q) ρ = .ok r (ρ4.set i o) := by
  simp [ev, evr, h, h2, h3, callM, hm, prep, ho, he, he2, hc, back, hw]
theorem w_callO1 {f : Nat} {n : Str} {o w : Sl} (hm : Φ.md f = [true]) (h : ev Φ a ρ = .ok (.sl i) ρ) (ho : ρ[i]? = some (.own ds)) (hc : Φ.call f [.own ds] = .ok w [o]) (hw : ofSl w = some r) : ev Φ (.call f n p (.cons a .nil) q) ρ = .ok r ((ρ.set i .no).set i o) := by
  simp [ev, evr, h, callM, hm, prep, ho, hc, back, hw]
theorem w_pop {n : Str} {pa : Pos} {es : List D} (ho0 : ρ[i]? = some (.own es)) (h : ev Φ a ρ = .ok x ρ1) (he : x.esc ρ1 = .ok d ρ2) (hk : popM i d ρ2 = .ok r ρ3) : ev Φ (.pop i n p pa a q) ρ = .ok r ρ3 := by
  simp [ev, isOwn, ho0, w_esc h he, hk]
theorem for_cnt {put : D → Fr → Option Fr} {body : Fr → SO} (J : Nat → Fr → Prop) : ∀ (ds : List D) (k : Nat) (ρ : Fr), J k ρ →
    (∀ j ρ d, k ≤ j → j < k + ds.length → d ∈ ds → J j ρ → ∃ ρ1 ρ2, put d ρ = some ρ1 ∧ body ρ1 = .nx ρ2 ∧ J (j + 1) ρ2) → ∃ ρ', forLoop put body ds ρ = .nx ρ' ∧ J (k + ds.length) ρ'
  | [], k, ρ, hj, _ => ⟨ρ, rfl, hj⟩
  | d :: ds, k, ρ, hj, h => by
    obtain ⟨ρ1, ρ2, h1, h2, h3⟩ := h k ρ d (Nat.le_refl _) (by simp) List.mem_cons_self hj
    obtain ⟨ρ', h4, h5⟩ := for_cnt J ds (k + 1) ρ2 h3 fun j ρ e h6 h7 he => h j ρ e (by omega) (by simp only [List.length_cons]; omega) (List.mem_cons_of_mem _ he)
    refine ⟨ρ', by rw [forLoop, h1]; simp only [h2]; exact h4, ?_⟩
    rw [List.length_cons, show k + (ds.length + 1) = k + 1 + ds.length by omega]
    exact h5
theorem w_rng {j : Int} (h : ev Φ a ρ = .ok x ρ1) (hx : x.look ρ1 = some (.int j)) (h0 : -(2 ^ 62) ≤ j ∧ j < 2 ^ 62) : evSr Φ (.rng p a q) ρ = .ok ((List.range j.toNat).map fun (i : Nat) => .int i) ρ1 := by
  simp only [evSr, lookM, h, hx, Out.bind_ok, Py.ask]
  rw [if_pos h0]
theorem w_rngN {j : Nat} (h : ev Φ a ρ = .ok x ρ1) (hx : x.look ρ1 = some (.int (j : Int))) (h0 : j ≤ 10000) : evSr Φ (.rng p a q) ρ = .ok ((List.range j).map fun (i : Nat) => .int i) ρ1 := by
  rw [w_rng h hx (by omega), Int.toNat_natCast]
end
end Py
namespace K11
open PySem Py Cr
theorem phi_call (n f : Nat) (a : List Sl) : (Φn n).call f a = callN Pm n f a := rfl
theorem w_lr {j : Nat} (h : j ≤ 10000) : lrngM (.int (j : Int)) = some (.new ((List.range j).map fun (i : Nat) => .int i)) := by
  have h2 : -(2 ^ 62) ≤ (j : Int) ∧ (j : Int) < 2 ^ 62 ∧ (j : Int).toNat ≤ 2 ^ 24 := by omega
  simp only [lrngM]
  rw [if_pos h2]; rfl
theorem b2_min (i j : Int) : b2M .min (.int i) (.int j) = some (.dt (.int (min i j))) := by
  show some (R.dt (.int (if j < i then j else i))) = _
  congr 3; omega
theorem b2_max (i j : Int) : b2M .max (.int i) (.int j) = some (.dt (.int (max i j))) := by
  show some (R.dt (.int (if j > i then j else i))) = _
  congr 3; omega
/-- _law_in, _law_least, _law_by_size -/
theorem lawin_eq (n : Nat) (a b : List Int) (ha : a.length ≤ 100000) : callN Pm (n + 1) 28 [.val (tD a), .val (tD b)] = .ok (.val (.bool (subB a b))) [] := by
  show runFn (Φn n) f28 _ = _
  refine w_run rfl (w_ret (w_b1 (w_map (ds := a.map PyData.int) (fun d => .bool (b.contains (decI d))) (w_slen (w_val rfl) rfl rfl) rfl rfl (len_ok _ ha) fun d hd => ?_) rfl (bl_all a b))) rfl
  obtain ⟨i, _, rfl⟩ := List.mem_map.mp hd
  exact ⟨_, rfl, w_esc (w_cmp (w_val rfl) (w_val rfl) rfl rfl (in_tD i b)) rfl, rfl⟩
def leastF (S : List Lot) : List Lot := S.filter fun l => !S.any fun o => decide (o ≠ l) && subB o l
theorem cmp_neT (a b : Lot) : cmpop .NotEq (tD a) (tD b) = some (decide (a ≠ b)) := by
  unfold cmpop
  simp only [fine_tD, Bool.and_self, if_true, eqv_tD]
  by_cases h : a = b <;> simp [h]
theorem least_eq (n : Nat) (S : List Lot) (hS : S.length ≤ 10000) (h : ∀ l ∈ S, l.length ≤ 10000) : callN Pm (n + 2) 29 [.val (.list (S.map tD))] = .ok (.own ((leastF S).map tD)) [] := by
  show runFn (Φn (n + 1)) f29 _ = _
  unfold leastF
  rw [← filter_tD S fun l => !S.any fun o => decide (o ≠ l) && subB o l]
  refine w_run rfl (w_ret (w_flt (ds := S.map tD) (fun d => !S.any fun o => decide (o ≠ unT d) && subB o (unT d)) id (w_slen (w_val rfl) rfl rfl) rfl rfl (len_ok _ (by omega)) fun d hd => ?_)) rfl
  obtain ⟨l, hl, rfl⟩ := List.mem_map.mp hd
  rw [unT_tD]
  refine ⟨_, rfl, t_nt (t_b1 (w_b1 (w_map (ds := S.map tD) (fun d => .bool (decide (unT d ≠ l) && subB (unT d) l)) (w_slen (w_val rfl) rfl rfl) rfl rfl (len_ok _ (by omega)) fun d hd => ?_) rfl (any_sub S fun o => decide (o ≠ l) && subB o l)) rfl), fun _ => w_esc (w_val rfl) rfl, rfl⟩
  obtain ⟨o, ho, rfl⟩ := List.mem_map.mp hd
  rw [unT_tD]
  refine ⟨_, rfl, ?_, rfl⟩
  cases hc : decide (o ≠ l) with
  | false => exact w_esc (w_bo (w_cmp (w_val rfl) (w_val rfl) rfl rfl ((cmp_neT o l).trans (by rw [hc]; rfl))) (bo_stop (cc := true) rfl)) rfl
  | true => exact w_esc (w_bo (w_cmp (w_val rfl) (w_val rfl) rfl rfl ((cmp_neT o l).trans (by rw [hc]))) (bo_go rfl (w_call2 rfl (w_val rfl) (w_val rfl) rfl rfl (lawin_eq n o l (by have := h o ho; omega)) rfl) bo_nil)) rfl
theorem lawmeets_eq (n : Nat) (a b : List Int) (ha : a.length ≤ 100000) : callN Pm (n + 1) 30 [.val (tD a), .val (tD b)] = .ok (.val (.bool (meetB a b))) [] := by
  show runFn (Φn n) f30 _ = _
  refine w_run rfl (w_ret (w_b1 (w_map (ds := a.map PyData.int) (fun d => .bool (b.contains (decI d))) (w_slen (w_val rfl) rfl rfl) rfl rfl (len_ok _ ha) fun d hd => ?_) rfl (bl_any a b))) rfl
  obtain ⟨i, _, rfl⟩ := List.mem_map.mp hd
  exact ⟨_, rfl, w_esc (w_cmp (w_val rfl) (w_val rfl) rfl rfl (in_tD i b)) rfl, rfl⟩
end K11
end
section
set_option Elab.async false
set_option linter.all false
set_option autoImplicit false
set_option maxRecDepth 100000
namespace K11
open PySem Py Cr
theorem cmp_ge (i j : Int) : cmpop .GtE (.int i) (.int j) = some (decide (j ≤ i)) := by
  unfold cmpop
  simp only [W.alike, fine_int, isNon_int, W.dataLt_int, Bool.and_self, Bool.not_false, if_true]
  by_cases h : i < j
  · simp [h]
  · simp [h]; try omega
theorem lenI (ns : List Int) : b1M .len (.list (ns.map PyData.int)) = some (.dt (.int (ns.length : Int))) := by
  show (some (ns.map PyData.int).length).map (fun n : Nat => R.dt (PyData.int (n : Int))) = _
  rw [List.length_map]; rfl
theorem idxI {ns : List Int} {p : Nat} (h : p < ns.length) : idxM (.list (ns.map PyData.int)) (.int (p : Int)) = some (.dt (.int ns[p])) := by
  show (atD (ns.map PyData.int) (p : Int)).map R.dt = _
  unfold atD L2.atI
  have e : L2.ixN (ns.map PyData.int).length (p : Int) = some p := by
    rw [List.length_map]
    unfold L2.ixN
    rw [if_pos (by omega), if_pos (by omega)]
    rfl
  rw [e]
  simp [List.getElem?_eq_getElem h]
theorem sum_cut (ns : List Int) (v : Int) : ∃ r s, slcM (.list (ns.map PyData.int)) none (some v) = some (.new r) ∧ b1M .sum (.list r) = some (.dt (.int s)) := by
  refine ⟨_, ((ns.drop (HT.sIx (ns.map PyData.int).length 0 none)).take (HT.sIx (ns.map PyData.int).length (ns.map PyData.int).length (some v) - HT.sIx (ns.map PyData.int).length 0 none)).sum, rfl, ?_⟩
  show (intsD (((ns.map PyData.int).drop _).take _)).map (fun is => R.dt (.int is.sum)) = _
  rw [← List.map_drop, ← List.map_take, intsD_ints]
  rfl
def bigP : Int := ((10 : Int) ^ 60) ^ 5
theorem pow60 : binop .Pow (.int 10) (.int 60) = some (.dt (.int ((10 : Int) ^ 60))) := by
  have h : (0 : Int) ≤ 60 ∧ (Builtin.Int.intBits 10 : Int) * 60 ≤ 2 ^ 27 := by decide +kernel
  simp only [binop, h, and_self, if_true]
  rfl
theorem pow18 : binop .Pow (.int 10) (.int 18) = some (.dt (.int ((10 : Int) ^ 18))) := by
  have h : (0 : Int) ≤ 18 ∧ (Builtin.Int.intBits 10 : Int) * 18 ≤ 2 ^ 27 := by decide +kernel
  simp only [binop, h, and_self, if_true]
  rfl
theorem pow5 : binop .Pow (.int ((10 : Int) ^ 60)) (.int 5) = some (.dt (.int bigP)) := by
  have h : (0 : Int) ≤ 5 ∧ (Builtin.Int.intBits ((10 : Int) ^ 60) : Int) * 5 ≤ 2 ^ 27 := by decide +kernel
  simp only [binop, h, and_self, if_true]
  rfl
theorem bigP_pos : 0 < bigP := by decide +kernel
theorem bigP_lt : bigP < 2 ^ 1000 := by decide +kernel
theorem bop_big {i : Int} (h1 : 0 ≤ i) (h2 : i < bigP) (b : Bool) : binop .Mult (.int i) (.int (if b then 1 else 0)) = some (.dt (.int (i * if b then 1 else 0))) := by
  have h : i.natAbs.log2 < 1000 := by
    by_cases h0 : i.natAbs = 0
    · rw [h0]; decide
    · refine (Nat.log2_lt h0).mpr ?_
      have := bigP_lt
      have e : ((2 ^ 1000 : Nat) : Int) = 2 ^ 1000 := by decide +kernel
      omega
  have h3 : (if b then (1 : Int) else 0).natAbs.log2 = 0 := by cases b <;> decide
  have h4 : i.natAbs.log2 + (if b then (1 : Int) else 0).natAbs.log2 < 1000000 := by omega
  simp only [binop, h4, if_true]
theorem cell_ok (n : Nat) (ns : List Int) (p : Nat) (hp : p < 10) : ∃ cell : Int, ev (Φn n) (match b22 with | .cons (.asg _ _ _ e _) _ => e | _ => .non 0 ⟨0, 0, 0, 0⟩) [.val (.list (ns.map PyData.int)), .val (.int (p : Int)), .no, .no, .no] = .ok (.dt (.int cell)) [.val (.list (ns.map PyData.int)), .val (.int (p : Int)), .no, .no, .no] := by
  by_cases h : p < ns.length
  · exact ⟨_, w_ifeT (t_cmp (w_val rfl) (w_b1 (w_val rfl) rfl (lenI ns)) rfl rfl ((cmp_lt _ _).trans (by rw [decide_eq_true (by omega)]))) (w_idx (w_val rfl) (w_val rfl) rfl rfl (idxI h))⟩
  · obtain ⟨r, s, e1, e2⟩ := sum_cut ns 1
    exact ⟨_, w_ifeF (t_cmp (w_val rfl) (w_b1 (w_val rfl) rfl (lenI ns)) rfl rfl ((cmp_lt _ _).trans (by rw [decide_eq_false (by omega)]))) (w_bin (w_bin (w_bin (w_b1 (w_shi (w_val rfl) w_int rfl rfl e1) rfl e2) w_int rfl rfl (bop_mod (by decide))) (w_bin w_int (w_val rfl) rfl rfl (bop_mul (by decide) (by decide) (by omega) (by omega))) rfl rfl rfl) w_int rfl rfl rfl)⟩
theorem pot_eq (n : Nat) (ns : List Int) (p : Nat) (hp : p < 10) : ∃ pot, callN Pm (n + 1) 22 [.val (.list (ns.map PyData.int)), .val (.int (p : Int))] = .ok (.own pot) [] ∧ PotOk 0 pot := by
  obtain ⟨cell, hc⟩ := cell_ok n ns p hp
  have e30 : (10 : Int) ^ 30 = 1000000000000000000000000000000 := by decide
  have a1 := Int.emod_nonneg (cell.natAbs : Int) (show bigP ≠ 0 by have := bigP_pos; omega)
  have a2 := Int.emod_lt_of_pos (cell.natAbs : Int) bigP_pos
  have s1 := Int.emod_nonneg cell (show (2305843009213693951 : Int) ≠ 0 by decide)
  have s2 := Int.emod_lt_of_pos cell (show (0 : Int) < 2305843009213693951 by decide)
  have q0 : 0 ≤ 8762 * (p : Int) ∧ 8762 * (p : Int) ≤ 87620 := by omega
  refine ⟨[.int ((cell.natAbs : Int) % bigP * if decide ((10 : Int) ^ 18 ≤ (cell.natAbs : Int)) then 1 else 0), .int ((cell % 2305843009213693951 * 123904 + 8762 * (p : Int) * (p : Int) + 178) % 2305843009213693921), .int 0], ?_, _, _, _, rfl, ?_, Int.emod_nonneg _ (by decide), ?_, by decide, by decide⟩
  · show runFn (Φn n) f22 _ = _
    refine w_run rfl (w_asg hc rfl (w_asg (w_bin (w_bin (w_b1 (w_b1 (w_val rfl) rfl rfl) rfl rfl) (w_bin (w_bin w_int w_int rfl rfl pow60) w_int rfl rfl pow5) rfl rfl (bop_mod bigP_pos)) (w_b1 (w_cmp (w_b1 (w_val rfl) rfl rfl) (w_bin w_int w_int rfl rfl pow18) rfl rfl (cmp_ge _ _)) rfl rfl) rfl rfl (bop_big a1 a2 _)) rfl (w_asg (w_bin (w_b1 (w_val rfl) rfl rfl) w_int rfl rfl (bop_mod (by decide))) rfl (w_ret (w_lst (w_evs (w_val rfl) rfl (w_evs (w_bin (w_b1 (w_bin (w_bin (w_bin (w_val rfl) w_int rfl rfl (bop_mul (by omega) (by omega) (by decide) (by decide))) (w_bin (w_bin w_int (w_val rfl) rfl rfl (bop_mul (by decide) (by decide) (by omega) (by omega))) (w_val rfl) rfl rfl (bop_mul (by omega) (by omega) (by omega) (by omega))) rfl rfl rfl) w_int rfl rfl rfl) rfl rfl) w_int rfl rfl (bop_mod (by decide))) rfl (w_evs w_int rfl w_evs_nil))) (sl_ok (show 3 ≤ 100000 by decide))))))) rfl
  · refine Int.mul_nonneg a1 ?_
    split <;> decide
  · have := Int.emod_lt_of_pos (cell % 2305843009213693951 * 123904 + 8762 * (p : Int) * (p : Int) + 178) (show (0 : Int) < 2305843009213693921 by decide)
    omega
theorem places_eq (n : Nat) (ns : List Int) : ∃ k : Nat, 1 ≤ k ∧ k ≤ 4 ∧ callN Pm (n + 1) 25 [.val (.list (ns.map PyData.int)), .val (.int 4)] = .ok (.own ((List.range k).map fun (i : Nat) => PyData.int i)) [] := by
  refine ⟨max 1 (min 4 ns.length), by omega, by omega, ?_⟩
  have e : max (1 : Int) (min 4 (ns.length : Int)) = ((max 1 (min 4 ns.length) : Nat) : Int) := by omega
  show runFn (Φn n) f25 _ = _
  exact w_run rfl (w_ret (w_lrng (w_b2 w_int (w_b2 (w_val rfl) (w_b1 (w_val rfl) rfl (lenI ns)) rfl rfl (b2_min _ _)) rfl rfl (b2_max _ _)) rfl (by rw [e]; exact w_lr (by omega)))) rfl
end K11
end
section
set_option Elab.async false
set_option linter.all false
set_option autoImplicit false
set_option maxRecDepth 100000
/-! What the draws' answers are: plain. -/
namespace K11
open PySem Py Cr
theorem rng_len {m : Int} {k : Nat} (hm : m ≤ k) {t : Lot} (ha : Asc t) (h : ∀ x ∈ t, 0 ≤ x ∧ x < m) : t.length ≤ k := by
  have q := nodup_len (b := (List.range k).map fun (i : Nat) => (i : Int)) (asc_nodup ha) fun x hx => by
    have := h x hx
    exact List.mem_map.mpr ⟨x.toNat, List.mem_range.mpr (by omega), by omega⟩
  simpa using q
theorem few_of {m : Int} (hm : m ≤ 6) (hm0 : 0 ≤ m) {S : List Lot} (h : ∀ l ∈ S, (∀ x ∈ l, 0 ≤ x ∧ x < m) ∨ ∀ x ∈ l, m ≤ x ∧ x < 2 * m) : Few S := by
  intro D T e F hF
  have hD : ∀ l ∈ D, (∀ x ∈ l, 0 ≤ x ∧ x < m) ∨ ∀ x ∈ l, m ≤ x ∧ x < 2 * m := fun l hl => h l (by rw [e]; exact List.mem_append_left _ hl)
  refine ⟨len400 hm hD hF, fun t ht => ?_⟩
  have q := (hF.mem t).mp ht
  have := rng_len (m := 2 * m) (k := 12) (by omega) q.1 fun x hx => by
    obtain ⟨l, hl, hxl⟩ := min_in q x hx
    rcases hD l hl with k | k
    · have := k x hxl; omega
    · have := k x hxl; omega
  omega
theorem good_of {m M : Int} (hm : m ≤ 6) (hm0 : 0 ≤ m) (hM : 0 ≤ M) (hM2 : M ≤ 40) {L : List Lot} (hlen : L.length ≤ 400) (hlt : ∀ l ∈ L, Lt M l) (h : ∀ l ∈ L, (∀ x ∈ l, 0 ≤ x ∧ x < m) ∨ ∀ x ∈ l, m ≤ x ∧ x < 2 * m): Good M L :=
  ⟨hM, hM2, hlen, hlt, few_of hm hm0 fun l hl => h l (((least_spec fun l hl => (hlt l hl).1).2 l).mp hl).1⟩
theorem lt_mono {m M : Int} (h : m ≤ M) {l : Lot} (hl : Lt m l) : Lt M l := ⟨hl.1, fun x hx => by have := hl.2 x hx; omega⟩
/-- lots of m parts, handed in with M -/
theorem good_low {m M : Int} (hm : m ≤ 6) (hm0 : 0 ≤ m) (hM : m ≤ M) (hM2 : M ≤ 40) {L : List Lot} (hlen : L.length ≤ 400) (hlt : ∀ l ∈ L, Lt m l): Good M L :=
  good_of hm hm0 (by omega) hM2 hlen (fun l hl => lt_mono hM (hlt l hl)) (fun l hl => .inl (hlt l hl).2)
theorem cross_congr {m M : Int} {L K : List Lot} (h : Good m L) (k : Good M K) (e : ∀ t, Hits L t ↔ Hits K t) : crossL L = crossL K :=
  ord_ext (cross_spec h).1 (cross_spec k).1 fun x => by rw [(cross_spec h).2, (cross_spec k).2, min_congr e]
theorem hits_mem {L K : List Lot} (h : ∀ l, l ∈ L ↔ l ∈ K) (t : Lot) : Hits L t ↔ Hits K t := ⟨fun k l hl => k l ((h l).mpr hl), fun k l hl => k l ((h l).mp hl)⟩
/-- with lots that have others within -/
theorem hits_wide {L W : List Lot} (h : ∀ w ∈ W, ∃ l ∈ L, sub l w) (t : Lot) : Hits (L ++ W) t ↔ Hits L t :=
  ⟨fun k l hl => k l (List.mem_append_left _ hl), hits_mono fun l hl => by
    rcases List.mem_append.mp hl with e | e
    · exact ⟨l, e, sub_refl l⟩
    · exact h l e⟩
section
variable {m : Int} {L : List Lot}
theorem due_lt (h : Good m L) : ∀ t ∈ crossL L, Lt m t := fun t ht => by
  have q := ((cross_spec h).2 t).mp ht
  refine ⟨q.1, fun x hx => ?_⟩
  obtain ⟨l, hl, hxl⟩ := min_in q x hx
  exact (h.lot l hl).2 x hxl
theorem due_some (h : Good m L) (hn : ∀ l ∈ L, l ≠ []) : crossL L ≠ [] := by
  obtain ⟨u, hu, _⟩ := exists_min (up_hits L) _ (norm L.flatten) rfl (norm_asc _) fun l hl => by
    obtain ⟨x, hx⟩ := List.exists_mem_of_ne_nil l (hn l hl)
    exact ⟨x, mem_norm.mpr (List.mem_flatten.mpr ⟨l, hl, hx⟩), hx⟩
  intro e
  have := ((cross_spec h).2 u).mpr hu
  rw [e] at this; exact absurd this List.not_mem_nil
theorem due_shape (h : Good m L) (hn : ∀ l ∈ L, l ≠ []) : (∀ t ∈ crossL L, t ≠ []) ∨ crossL L = [[]] := by
  cases L with
  | nil =>
    right
    refine ord_ext (cross_spec h).1 (List.pairwise_singleton _ _) fun x => ?_
    rw [(cross_spec h).2, ← all_nil.mem]
  | cons l L =>
    left
    intro t ht e
    obtain ⟨x, hx, _⟩ := (((cross_spec h).2 t).mp ht).2.1 l List.mem_cons_self
    rw [e] at hx; exact absurd hx List.not_mem_nil
theorem mem_leastF {S : List Lot} {l : Lot} : l ∈ leastF S ↔ l ∈ S ∧ ∀ o ∈ S, sub o l → o = l := by
  unfold leastF
  rw [List.mem_filter, Bool.not_eq_true', List.any_eq_false]
  refine and_congr Iff.rfl ⟨fun h o ho hs => Classical.byContradiction fun hne => h o ho ?_, fun h o ho hb => ?_⟩
  · rw [subB_iff.mpr hs, decide_eq_true hne]; rfl
  · have ⟨h1, h2⟩ := (Bool.and_eq_true _ _).mp hb
    exact of_decide_eq_true h1 (h o ho (subB_iff.mp h2))
theorem mem_core {S : List Lot} {l : Lot} : l ∈ leastF (bys S) ↔ l ∈ S ∧ ∀ o ∈ S, sub o l → o = l := by
  rw [mem_leastF, mem_bys]
  exact and_congr Iff.rfl ⟨fun h o ho => h o (mem_bys.mpr ho), fun h o ho => h o (mem_bys.mp ho)⟩
theorem twice {M : Int} (h : Good m L) (k : Good M (crossL L)) : crossL (crossL L) = leastF (bys L) :=
  ord_ext (cross_spec k).1 (ord_filter (ord_bys L) _) fun x => by
    rw [(cross_spec k).2, min_congr (dual (cross_spec h).2), min_over fun l hl => (h.lot l hl).1]
    exact mem_core.symm
theorem due_len (h : Good m L) : ∀ t ∈ crossL L, t.length ≤ (leastF (bys L)).length := fun t ht =>
  len_own (fun l hl => by
    obtain ⟨u, hu, hus⟩ := exists_min (over_up L) _ l rfl (h.lot l hl).1 ⟨l, hl, sub_refl l⟩
    exact ⟨u, mem_core.mpr ((min_over (fun l hx => (h.lot l hx).1) u).mp hu), hus⟩) (fun k hk => (mem_core.mp hk).1) (((cross_spec h).2 t).mp ht)
theorem head_least {S : List Lot} (h : Ord S) {t : Lot} (ht : S.head? = some t) : t ∈ S ∧ ∀ u ∈ S, t.length ≤ u.length := by
  cases S with
  | nil => exact absurd ht (by simp)
  | cons x S =>
    have : x = t := by simpa using ht
    subst this
    refine ⟨List.mem_cons_self, fun u hu => ?_⟩
    rcases List.mem_cons.mp hu with e | e
    · rw [e]; exact Nat.le_refl _
    · exact leS_len ((List.pairwise_cons.mp h).1 u e).1
theorem mem_least (h : Good m L) {x : Lot} : x ∈ leastL L ↔ x ∈ L ∧ ∀ y ∈ L, sub y x → y = x := (least_spec fun l hl => (h.lot l hl).1).2 x
theorem least_nodup (h : Good m L) : (leastL L).Nodup := ord_nodup (least_spec fun l hl => (h.lot l hl).1).1
theorem apart_due (h : Good m L) {t : Lot} (ht : t ∈ crossL L) : apN (leastL L) ≤ t.length :=
  apN_le fun l hl => (((cross_spec h).2 t).mp ht).2.1 l ((mem_least h).mp hl).1
theorem least_len (h : Good m L) : (leastL L).length ≤ L.length := nodup_len (least_nodup h) fun x hx => ((mem_least h).mp hx).1
end
end K11
end
section
set_option Elab.async false
set_option linter.all false
set_option autoImplicit false
set_option maxRecDepth 100000
namespace Py
open PySem
section
variable {slots : List Nat} {put : D → Fr → Option Fr} {tst : Fr → Out Bool} {elt : Fr → Out D}
/-- a comprehension whose turns change the frame -/
theorem compLoop_st (J : Nat → Fr → Prop) (G : D → D → Prop) (ht : ∀ ρ1, tst ρ1 = .ok true ρ1) : ∀ (ds acc : List D) (k : Nat) (ρ : Fr), J k ρ → acc.length + ds.length ≤ sizeLine →
    (∀ j d ρ, k ≤ j → j < k + ds.length → d ∈ ds → J j ρ → ∃ ρ1 ρ2 y, put d (wipeF ρ slots) = some ρ1 ∧ elt ρ1 = .ok y ρ2 ∧ G d y ∧ J (j + 1) ρ2) →
    ∃ (ps : List (D × D)) (ρ' : Fr), compLoop slots put tst elt ds acc ρ = .ok (acc ++ ps.map (·.2)) ρ' ∧ ps.map (·.1) = ds ∧ (∀ p ∈ ps, G p.1 p.2) ∧ J (k + ds.length) ρ'
  | [], acc, k, ρ, hj, _, _ => ⟨[], ρ, by simp [compLoop], rfl, fun _ h => absurd h List.not_mem_nil, hj⟩
  | d :: ds, acc, k, ρ, hj, hl, h => by
    have hl' : acc.length + (ds.length + 1) ≤ sizeLine := hl
    obtain ⟨ρ1, ρ2, y, h1, h2, h3, h4⟩ := h k d ρ (Nat.le_refl _) (by simp) List.mem_cons_self hj
    obtain ⟨ps, ρ', e, p1, p2, p3⟩ := compLoop_st J G ht ds (acc ++ [y]) (k + 1) ρ2 h4 (by rw [List.length_append, List.length_singleton]; omega) fun j x ρ a b c => h j x ρ (by omega) (by simp only [List.length_cons]; omega) (List.mem_cons_of_mem _ c)
    refine ⟨(d, y) :: ps, ρ', ?_, by rw [List.map_cons, p1], fun p hp => ?_, by rw [List.length_cons, show k + (ds.length + 1) = k + 1 + ds.length by omega]; exact p3⟩
    · rw [compLoop, h1]
      simp only [ht, Out.bindN_ok, Out.bind_ok, if_true, h2]
      rw [if_pos (by omega), e, List.map_cons, List.append_assoc]
      rfl
    · rcases List.mem_cons.mp hp with e | e
      · subst e; exact h3
      · exact p2 p e
end
section
variable {Φ : Fx} {io : List Nat} {ρ ρ1 ρ2 ρ3 ρ4 ρ5 : Fr} {a b c e : E} {x y z r : R} {d d1 d2 d3 : D} {ds es ks : List D} {p q : Pos} {i : Nat} {s : Str}
theorem w_cst {t : Tg} {src : Sr} {sc : Scope} {own : List (Str × Nat)} {ρ0 : Fr} (J : Nat → Fr → Prop) (G : D → D → Prop) (hs : evSr Φ src ρ0 = .ok ds ρ) (hp : plainSlots (own.map (·.2)) ρ = true) (hl : ds.length ≤ sizeLine) (hj : J 0 ρ)
    (h : ∀ j d ρ, j < ds.length → d ∈ ds → J j ρ → ∃ ρ1 ρ2 y, t.put d (wipeF ρ (own.map (·.2))) = some ρ1 ∧ escM (ev Φ e ρ1) = .ok y ρ2 ∧ G d y ∧ J (j + 1) ρ2) :
    ∃ (ps : List (D × D)) (ρ' : Fr), ev Φ (.comp e t src none sc own p) ρ0 = .ok (.new (ps.map (·.2))) (unwipe ρ (wipeF ρ' (own.map (·.2))) (own.map (·.2))) ∧ ps.map (·.1) = ds ∧ (∀ p ∈ ps, G p.1 p.2) ∧ J ds.length ρ' := by
  obtain ⟨ps, ρ', e, p1, p2, p3⟩ := compLoop_st (slots := own.map (·.2)) (put := t.put) (tst := fun ρ => .ok true ρ) (elt := fun ρ => escM (ev Φ e ρ)) J G (fun _ => rfl) ds [] 0 ρ hj (by simpa using hl) fun j d ρ _ b c => h j d ρ (by omega) c
  rw [Nat.zero_add] at p3
  refine ⟨ps, ρ', ?_, p1, p2, p3⟩
  simp only [ev]
  unfold compM
  rw [hs]
  simp only [Out.bind_ok, hp, if_true, e, List.nil_append]
theorem w_unp {ts : List (Nat × Str × Pos)} {k : Nat} {pt : Pos} {rest : Ss} {o : SO} (h : ev Φ e ρ = .ok x ρ1) (he : x.esc ρ1 = .ok (.tuple ds) ρ2) (hio : ts.any (fun t => io.contains t.1) = false) (hs : setRow ts ds ρ2 = some ρ3) (hr : evSs Φ io rest ρ3 = o) : evSs Φ io (.cons (.unp ts k pt e p) rest) ρ = o := by
  simp only [evSs, evS, w_esc h he, Out.toS_ok, hio, hs, optS_some, SO.thn_nx, hr, Bool.false_eq_true, if_false]
theorem w_par2 {j : Nat} {n1 n2 : Str} {p1 p2 p3 p4 p5 : Pos} {k1 k2 : Nat} {rest : Ss} {o : SO} (h : ev Φ a ρ = .ok (.new ds) ρ1) (h2 : ev Φ b ρ1 = .ok (.dt d) ρ2) (hij : i ≠ j) (hp : putR io i (.new ds) ρ2 = some ρ3) (hp2 : putR io j (.dt d) ρ3 = some ρ4) (hr : evSs Φ io rest ρ4 = o) :
    evSs Φ io (.cons (.par i n1 p1 j n2 p2 k1 p3 a b k2 p4 p5) rest) ρ = o := by simp [evSs, evS, h, h2, hij, hp, hp2, hr]
theorem w_ext {n : Str} {pa pb : Pos} (ho : ρ[i]? = some (.own ks)) (h : ev Φ a ρ = .ok x ρ1) (he : x.esc ρ1 = .ok (.list es) ρ2) (ho2 : ρ2[i]? = some (.own ds)) (hl : ds.length + es.length ≤ sizeLine) : ev Φ (.ext i n pa pb a q) ρ = .ok (.dt .none) (ρ2.set i (.own (ds ++ es))) := by
  simp [ev, isOwn, ho, w_esc h he, extM, ho2, hl]
end
end Py
namespace K11
open PySem Py Cr
theorem fine_Ts (F : List Lot) : fine (.tuple (F.map tD)) = true := by
  obtain ⟨a1, a2, a3⟩ := fine_tDs F
  exact (fine_seq ⟨a1, a2, by omega⟩ (okL_tDs _)).1
theorem cmp_neTs (F : List Lot) : cmpop .NotEq (.tuple (F.map tD)) (.tuple (F.map tD)) = some false := by
  unfold cmpop
  simp only [fine_Ts, Bool.and_self, if_true]
  rw [PySem.SeqAt.eqv_refl_plain _ (fine_parts (fine_Ts F)).1]; rfl
theorem cmp_eqTs (F : List Lot) : cmpop .Eq (.tuple (F.map tD)) (.tuple (F.map tD)) = some true := by
  unfold cmpop
  simp only [fine_Ts, Bool.and_self, if_true]
  rw [PySem.SeqAt.eqv_refl_plain _ (fine_parts (fine_Ts F)).1]
theorem add_Ts {A B : List Lot} (h : A.length + B.length ≤ 100000) : binop .Add (.tuple (A.map tD)) (.tuple (B.map tD)) = some (.dt (.tuple ((A ++ B).map tD))) := by
  show (if (A.map tD).length + (B.map tD).length ≤ sizeLine then some (R.dt (.tuple (A.map tD ++ B.map tD))) else none) = _
  rw [if_pos (by rw [List.length_map, List.length_map]; exact sl_ok h), List.map_append]
theorem add_tD {a b : Lot} (h : a.length + b.length ≤ 100000) : binop .Add (tD a) (tD b) = some (.dt (tD (a ++ b))) := by
  show (if (a.map PyData.int).length + (b.map PyData.int).length ≤ sizeLine then some (R.dt (.tuple (a.map PyData.int ++ b.map PyData.int))) else none) = _
  rw [if_pos (by rw [List.length_map, List.length_map]; exact sl_ok h), ← List.map_append]; rfl
/-- tuple(sorted(set(row))) -/
theorem sset_ints {l : Lot} (h : l.length < 1000) : ssetM (tD l) = some (.new ((norm l).map .int)) := by
  have hk : setOk (l.map PyData.int) = true := by
    unfold setOk
    refine (Bool.and_eq_true _ _).mpr ⟨decide_eq_true (by simpa using h), (Bool.or_eq_true _ _).mpr (.inl (List.all_eq_true.mpr fun a ha => ?_))⟩
    obtain ⟨x, _, rfl⟩ := List.mem_map.mp ha
    rfl
  have e : sortD (setD (l.map PyData.int)) = (norm l).map .int := by
    have h1 : setD (l.map PyData.int) = (firsts l).map PyData.int := setD_enc keyI l
    rw [h1, sort_ints]
    congr 1
    have p := List.mergeSort_perm (firsts l) keyI.le
    have hn : ((firsts l).mergeSort keyI.le).Nodup := p.nodup_iff.mpr (firsts_nodup l)
    refine asc_ext (List.pairwise_and_iff.mpr ⟨List.pairwise_mergeSort keyI.tr keyI.tot (firsts l), hn⟩ |>.imp fun {a b} h => ?_) (norm_asc l) fun z => ?_
    · have h3 := h.2
      have h4 : a ≤ b := by simpa [keyI] using h.1
      omega
    · rw [p.mem_iff, mem_firsts, mem_norm]
  show (match itemsD (tD l) with | some ds => if sortOk ds && setOk ds then some (R.new (sortD (setD ds))) else none | none => none) = _
  rw [tD_items]
  simp only [sortOk_ints, hk, Bool.and_self, if_true, e]
end K11
end
section
set_option Elab.async false
set_option linter.all false
set_option autoImplicit false
set_option maxRecDepth 100000
namespace K11
open PySem Py Cr
theorem callF {i : Nat} {f : Fn} (h : Pm i = some f) (n : Nat) (a : List Sl) : callN Pm (n + 1) i a = runFn (Φn n) f a := by
  show (match Pm i with | some fn => runFn (fxOf Pm (callN Pm n)) fn a | none => .no) = _
  rw [h]
abbrev iv (i : Int) : Sl := .val (.int i)
abbrev tv (L : List Lot) : Sl := .val (.tuple (L.map tD))
theorem len_Ts (A : List Lot) : b1M .len (.tuple (A.map tD)) = some (.dt (.int (A.length : Int))) := by
  show (some (A.map tD).length).map (fun n : Nat => R.dt (PyData.int (n : Int))) = _
  rw [List.length_map]; rfl
theorem cmp_eqi (i j : Int) : cmpop .Eq (.int i) (.int j) = some (decide (i = j)) := by
  unfold cmpop
  simp only [fine_int, Bool.and_self, if_true]
  rw [show PyData.eqv (.int i) (.int j) = decide (i = j) from keyI.eqv i j]
theorem at_mem {ds : List D} {d : Int} (h0 : 0 ≤ d) (h1 : d < ds.length) : ∃ y ∈ ds, idxM (.list ds) (.int d) = some (.dt y) := by
  have hk : d.toNat < ds.length := by omega
  refine ⟨ds[d.toNat], List.getElem_mem hk, ?_⟩
  show (atD ds d).map R.dt = _
  unfold atD L2.atI
  have e : L2.ixN ds.length d = some d.toNat := by
    unfold L2.ixN
    rw [if_pos h0, if_pos h1]
  rw [e]
  show (ds[d.toNat]?).map R.dt = _
  rw [List.getElem?_eq_getElem hk]
  rfl
/-- _law_of -/
theorem lawof_eq (n K : Nat) {pot : List D} (h : PotOk K pot) (hK : K ≤ 9000) {ds : List D} (h0 : ds ≠ []) (hl : ds.length ≤ 10000) : ∃ y pot', callN Pm (n + 2) 24 [.own pot, .val (.list ds)] = .ok (.val y) [.own pot'] ∧ PotOk (K + 1) pot' ∧ y ∈ ds := by
  have hp : 0 < ds.length := List.length_pos_iff.mpr h0
  obtain ⟨t, pot', e, h1, h2, h3⟩ := take_eq n K h (by omega) (u := (ds.length : Int)) (by omega) (by omega)
  obtain ⟨y, hy, ey⟩ := at_mem (ds := ds) h2 h3
  refine ⟨y, pot', ?_, h1, hy⟩
  rw [callF (i := 24) (f := f24) rfl]
  exact w_run rfl (w_ret (w_idx (w_val rfl) (w_callO2 (r := .dt (.int t)) rfl (w_own rfl) (w_b1 (r := .dt (.int (ds.length : Int))) (w_val rfl) rfl rfl) rfl rfl e rfl) rfl rfl ey)) rfl
/-- _law_lot -/
def J26 (K : Nat) (m : Int) (j : Nat) (ρ : Fr) : Prop := ∃ pot x, ρ = [.own pot, .val (.int m), x] ∧ PotOk (K + j) pot
theorem sub_ints {m : Nat} {es : List D} (h : es.Sublist ((List.range m).map fun (i : Nat) => PyData.int i)) : ∃ l : Lot, es = l.map .int ∧ Lt m l := by
  obtain ⟨l, hl, e⟩ := List.sublist_map_iff.mp h
  refine ⟨l.map fun (i : Nat) => (i : Int), by rw [e, List.map_map]; rfl, ?_, fun x hx => ?_⟩
  · exact List.Pairwise.map _ (fun a b h => by omega) ((List.pairwise_lt_range (n := m)).sublist hl)
  · obtain ⟨i, hi, rfl⟩ := List.mem_map.mp hx
    have := List.mem_range.mp (hl.subset hi)
    omega
theorem lawlot_eq (n K : Nat) {pot : List D} (h : PotOk K pot) {m : Nat} (hm : m ≤ 6) (hK : K ≤ 9000) : ∃ l pot', callN Pm (n + 2) 26 [.own pot, .val (.int (m : Int))] = .ok (.val (tD l)) [.own pot'] ∧ PotOk (K + 6) pot' ∧ Lt m l := by
  obtain ⟨es, ρ', e, p1, pot', x, rfl, p2⟩ := w_cts (Φ := Φn (n + 1)) (ρ0 := [.own pot, .val (.int (m : Int)), .no]) (ρ := [.own pot, .val (.int (m : Int)), .no])
    (e := match b26 with | .cons (.ret (.b1 _ _ (.comp e _ _ _ _ _ _) _) _) _ => e | _ => .non 0 ⟨0, 0, 0, 0⟩) (t := match b26 with | .cons (.ret (.b1 _ _ (.comp _ t _ _ _ _ _) _) _) _ => t | _ => .nm 0 "" ⟨0, 0, 0, 0⟩) (src := match b26 with | .cons (.ret (.b1 _ _ (.comp _ _ s _ _ _ _) _) _) _ => s | _ => .e (.non 0 ⟨0, 0, 0, 0⟩))
    (c := match b26 with | .cons (.ret (.b1 _ _ (.comp _ _ _ (some c) _ _ _) _) _) _ => c | _ => .non 0 ⟨0, 0, 0, 0⟩) (sc := sc17) (own := [("part", 2)]) (p := match b26 with | .cons (.ret (.b1 _ _ (.comp _ _ _ _ _ _ p) _) _) _ => p | _ => ⟨0, 0, 0, 0⟩) (ds := (List.range m).map fun (i : Nat) => PyData.int i)
    (J26 K m) id (w_rngN (j := m) (w_val rfl) rfl (by omega)) rfl (by rw [List.length_map, List.length_range]; exact sl_ok (by omega)) ⟨pot, .no, rfl, h⟩ (fun j d ρ hj hd ⟨po, x, e, hp⟩ => by
      subst e
      rw [List.length_map, List.length_range] at hj
      obtain ⟨t, po', et, q1, q2, q3⟩ := take_eq n (K + j) hp (by omega) (u := 2) (by decide) (by decide)
      refine ⟨_, [.own po', .val (.int (m : Int)), .val d], decide (t = 0), rfl, ?_, ⟨po', _, rfl, q1⟩, fun _ => w_esc (w_val rfl) rfl⟩
      exact t_cmp (w_callO2 (r := .dt (.int t)) rfl (w_own rfl) w_int rfl rfl et rfl) w_int rfl rfl (cmp_eqi t 0))
  obtain ⟨l, rfl, hl⟩ := sub_ints p1
  rw [List.length_map, List.length_range] at p2
  refine ⟨l, pot', ?_, pot_mono p2 (by omega), hl⟩
  rw [callF (i := 26) (f := f26) rfl]
  exact w_run rfl (w_ret (w_b1 (r := .dt (tD l)) e rfl (by rw [List.map_id]; rfl))) rfl
/-- _law_lots -/
def allF : Nat → List Lot
  | 0 => [[]]
  | k + 1 => allF k ++ (allF k).map fun l => l ++ [(k : Int)]
theorem allF_len : ∀ k, (allF k).length = 2 ^ k
  | 0 => rfl
  | k + 1 => by
    rw [allF, List.length_append, List.length_map, allF_len k, Nat.pow_succ]; omega
theorem mem_allF : ∀ (k : Nat) (t : Lot), t ∈ allF k ↔ Lt (k : Int) t
  | 0, t => by
    rw [allF, List.mem_singleton]
    constructor
    · rintro rfl; exact ⟨List.Pairwise.nil, fun _ h => absurd h List.not_mem_nil⟩
    · intro h
      cases t with
      | nil => rfl
      | cons x t => have := h.2 x List.mem_cons_self; omega
  | k + 1, t => by
    rw [allF, List.mem_append, mem_allF k, List.mem_map]
    constructor
    · rintro (h | ⟨l, hl, rfl⟩)
      · exact ⟨h.1, fun x hx => by have := h.2 x hx; omega⟩
      · have hl := (mem_allF k l).mp hl
        refine ⟨List.pairwise_append.mpr ⟨hl.1, List.pairwise_singleton _ _, fun a ha b hb => ?_⟩, fun x hx => ?_⟩
        · rw [List.mem_singleton.mp hb]
          exact (hl.2 a ha).2
        · rcases List.mem_append.mp hx with h | h
          · have := hl.2 x h; omega
          · rw [List.mem_singleton.mp h]; omega
    · intro h
      by_cases hk : (k : Int) ∈ t
      · right
        refine ⟨lo k t, (mem_allF k _).mpr ⟨List.Pairwise.filter _ h.1, fun x hx => ?_⟩, ?_⟩
        · have := mem_lo.mp hx
          have := h.2 x this.1
          omega
        · have e : hi k t = [(k : Int)] := by
            refine asc_ext (List.Pairwise.filter _ h.1) (List.pairwise_singleton _ _) fun x => ?_
            rw [mem_hi, List.mem_singleton]
            constructor
            · rintro ⟨h1, h2⟩; have := h.2 x h1; omega
            · rintro rfl; exact ⟨hk, Int.le_refl _⟩
          rw [← e, asc_split h.1]
      · left
        refine ⟨h.1, fun x hx => ?_⟩
        have := h.2 x hx
        have : x ≠ k := fun z => hk (z ▸ hx)
        omega
theorem allF_nodup : ∀ k, (allF k).Nodup
  | 0 => by decide
  | k + 1 => by
    rw [allF]
    refine List.nodup_append.mpr ⟨allF_nodup k, nodup_of_inj (fun a _ b _ e => List.append_cancel_right e) (allF_nodup k), fun a ha b hb e => ?_⟩
    obtain ⟨l, _, rfl⟩ := List.mem_map.mp hb
    have := ((mem_allF k a).mp ha).2 (k : Int) (by rw [e]; simp)
    omega
def allS (k : Nat) : List Lot := (allF k).mergeSort leS
theorem ord_allS (k : Nat) : Ord (allS k) := ord_sort (allF_nodup k)
theorem mem_allS {k : Nat} {t : Lot} : t ∈ allS k ↔ Lt k t := by rw [allS, mem_sort, mem_allF]
theorem allS_len {k : Nat} (h : k ≤ 6) : (allS k).length ≤ 64 := by
  rw [allS, List.length_mergeSort, allF_len]
  have : 2 ^ k ≤ 2 ^ 6 := Nat.pow_le_pow_right (by decide) h
  omega
def lp27 : Ss := match b27 with | .cons _ (.cons (.for_ _ _ b _) _) => b | _ => .nil
def tg27 : Tg := match b27 with | .cons _ (.cons (.for_ t _ _ _) _) => t | _ => .nm 0 "" ⟨0, 0, 0, 0⟩
theorem add_Ls {A B : List Lot} (h : A.length + B.length ≤ 100000) : binop .Add (.list (A.map tD)) (.list (B.map tD)) = some (.new ((A ++ B).map tD)) := by
  show (if (A.map tD).length + (B.map tD).length ≤ sizeLine then some (R.new (A.map tD ++ B.map tD)) else none) = _
  rw [if_pos (by rw [List.length_map, List.length_map]; exact sl_ok h), List.map_append]
theorem turn27 (n : Nat) (m : Sl) (F : List Lot) (k : Int) (hF : F.length ≤ 10000) (hl : ∀ l ∈ F, l.length ≤ 100) : evSs (Φn n) [] lp27 [m, .own (F.map tD), .val (.int k), .no] = .nx [m, .own ((F ++ F.map fun l => l ++ [k]).map tD), .val (.int k), .no] := by
  refine w_asg (r := .new ((F ++ F.map fun l => l ++ [k]).map tD)) (ρ1 := [m, .val (.list (F.map tD)), .val (.int k), .no]) (w_bin (x := .sl 1) (y := .new ((F.map fun l => l ++ [k]).map tD)) (d1 := .list (F.map tD)) (w_own rfl) ?_ rfl rfl (add_Ls (by rw [List.length_map]; omega))) rfl w_end
  rw [show (F.map fun l => l ++ [k]).map tD = (F.map tD).map fun d => tD (unT d ++ [k]) by rw [List.map_map, List.map_map]; exact List.map_congr_left fun l _ => by simp [unT_tD]]
  refine w_map (ρ := [m, .val (.list (F.map tD)), .val (.int k), .no]) (ds := F.map tD) (fun d => tD (unT d ++ [k])) (w_slen (w_own rfl) rfl rfl) rfl rfl (len_ok _ (by omega)) fun d hd => ?_
  obtain ⟨l, hl', rfl⟩ := List.mem_map.mp hd
  rw [unT_tD]
  have := hl l hl'
  exact ⟨_, rfl, w_esc (w_bin (w_val rfl) (w_tup (ds := [.int k]) (w_evs (w_val rfl) rfl w_evs_nil) (sl_ok (show 1 ≤ 100000 by decide))) rfl rfl (add_tD (b := [k]) (by simp; omega))) rfl, rfl⟩
theorem loop27 (n : Nat) (m : Sl) : ∀ (j k : Nat) (x : Sl), k + j ≤ 6 → ∃ x', forLoop tg27.put (evSs (Φn n) [] lp27) ((List.range' k j).map fun (i : Nat) => PyData.int i) [m, .own ((allF k).map tD), x, .no] = .nx [m, .own ((allF (k + j)).map tD), x', .no]
  | 0, k, x, _ => ⟨x, rfl⟩
  | j + 1, k, x, h => by
    have h2 : 2 ^ k ≤ 2 ^ 6 := Nat.pow_le_pow_right (by decide) (by omega)
    have t := turn27 n m (allF k) (k : Int) (by rw [allF_len]; omega) fun l hl => by
      have q := rng_len (m := (k : Int)) (k := 6) (by omega) ((mem_allF k l).mp hl).1 ((mem_allF k l).mp hl).2
      omega
    obtain ⟨x', e⟩ := loop27 n m j (k + 1) (.val (.int (k : Int))) (by omega)
    refine ⟨x', ?_⟩
    rw [List.range'_succ, List.map_cons, forLoop]
    show (match some ([m, .own ((allF k).map tD), .val (.int (k : Int)), .no] : Fr) with | none => SO.no | some ρ1 => match evSs (Φn n) [] lp27 ρ1 with | .nx ρ2 => forLoop tg27.put (evSs (Φn n) [] lp27) ((List.range' (k + 1) j).map fun (i : Nat) => PyData.int i) ρ2 | .ct ρ2 => forLoop tg27.put (evSs (Φn n) [] lp27) ((List.range' (k + 1) j).map fun (i : Nat) => PyData.int i) ρ2 | .bk ρ2 => .nx ρ2 | o => o) = _
    simp only [t]
    rw [show k + (j + 1) = k + 1 + j by omega]
    exact e
theorem lawlots_eq (n : Nat) {m : Nat} (hm : m ≤ 6) : callN Pm (n + 1) 27 [.val (.int (m : Int))] = .ok (.own ((allS m).map tD)) [] := by
  obtain ⟨x', e⟩ := loop27 n (.val (.int (m : Int))) m 0 .no (by omega)
  rw [Nat.zero_add, ← List.range_eq_range'] at e
  rw [callF (i := 27) (f := f27) rfl]
  refine w_run rfl (w_asg (w_lst (ds := [tD []]) (w_evs (w_tup w_evs_nil (sl_ok (show 0 ≤ 100000 by decide))) rfl w_evs_nil) (sl_ok (show 1 ≤ 100000 by decide))) rfl (w_for rfl (w_rngN (j := m) (w_val rfl) rfl (by omega)) e (w_ret (w_slam (r := .new ((allS m).map tD)) (fun d => kD (unT d)) (w_own rfl) rfl rfl ?_ ?_ ?_ ?_)))) rfl
  · rfl
  · intro d hd
    obtain ⟨l, _, rfl⟩ := List.mem_map.mp hd
    rw [unT_tD]
    exact w_esc (w_tup (w_evs (w_b1 (w_val rfl) rfl (b1_len l)) rfl (w_evs (w_val rfl) rfl w_evs_nil)) (sl_ok (show 2 ≤ 100000 by decide))) rfl
  · intro d; rfl
  · rw [List.map_map, show ((fun d => kD (unT d)) ∘ tD) = kD from funext fun l => by simp [unT_tD]]
    exact skey_tD _
/-- _law_power -/
def lp32 : Ss := match b32 with | .cons _ (.cons (.for_ _ _ b _) _) => b | _ => .nil
def tg32 : Tg := match b32 with | .cons _ (.cons (.for_ t _ _ _) _) => t | _ => .nm 0 "" ⟨0, 0, 0, 0⟩
theorem loop32 (n : Nat) (m : Sl) : ∀ (ds : List D) (k : Nat) (x : Sl), k + ds.length ≤ 20 → ∃ x', forLoop tg32.put (evSs (Φn n) [] lp32) ds [m, .val (.int ((2 ^ k : Nat) : Int)), x] = .nx [m, .val (.int ((2 ^ (k + ds.length) : Nat) : Int)), x']
  | [], k, x, _ => ⟨x, rfl⟩
  | d :: ds, k, x, h => by
    rw [List.length_cons] at h
    have h2 : 2 ^ k ≤ 2 ^ 20 := Nat.pow_le_pow_right (by decide) (by omega)
    have e30 : (10 : Int) ^ 30 = 1000000000000000000000000000000 := by decide
    have h3 : (2 : Nat) ^ 20 = 1048576 := by decide
    have q : (0 : Int) ≤ ((2 ^ k : Nat) : Int) := Int.natCast_nonneg _
    have q2 : ((2 ^ k : Nat) : Int) ≤ ((1048576 : Nat) : Int) := Int.ofNat_le.mpr (by omega)
    have t : evSs (Φn n) [] lp32 [m, .val (.int ((2 ^ k : Nat) : Int)), .val d] = .nx [m, .val (.int ((2 ^ (k + 1) : Nat) : Int)), .val d] := by
      refine w_asg (r := .dt (.int ((2 ^ (k + 1) : Nat) : Int))) (w_bin w_int (w_val rfl) rfl rfl ((bop_mul (by decide) (by decide) (Int.lt_of_lt_of_le (by decide) q) (Int.lt_of_le_of_lt q2 (by decide))).trans ?_)) rfl w_end
      congr 3
      rw [Nat.pow_succ]; omega
    obtain ⟨x', e⟩ := loop32 n m ds (k + 1) (.val d) (by omega)
    refine ⟨x', ?_⟩
    rw [forLoop]
    show (match some ([m, .val (.int ((2 ^ k : Nat) : Int)), .val d] : Fr) with | none => SO.no | some ρ1 => match evSs (Φn n) [] lp32 ρ1 with | .nx ρ2 => forLoop tg32.put (evSs (Φn n) [] lp32) ds ρ2 | .ct ρ2 => forLoop tg32.put (evSs (Φn n) [] lp32) ds ρ2 | .bk ρ2 => .nx ρ2 | o => o) = _
    simp only [t]
    rw [List.length_cons, show k + (ds.length + 1) = k + 1 + ds.length by omega]
    exact e
theorem lawpower_eq (n : Nat) {k : Nat} (hk : k ≤ 20) : callN Pm (n + 1) 32 [.val (.int (k : Int))] = .ok (.val (.int ((2 ^ k : Nat) : Int))) [] := by
  obtain ⟨x', e⟩ := loop32 n (.val (.int (k : Int))) ((List.range k).map fun (i : Nat) => PyData.int i) 0 .no (by rw [List.length_map, List.length_range]; omega)
  rw [List.length_map, List.length_range, Nat.zero_add] at e
  rw [callF (i := 32) (f := f32) rfl]
  exact w_run rfl (w_asg w_int rfl (w_for rfl (w_rngN (j := k) (w_val rfl) rfl (by omega)) e (w_ret (w_val rfl)))) rfl
end K11
end
section
set_option Elab.async false
set_option linter.all false
set_option autoImplicit false
set_option maxRecDepth 100000
namespace K11
open PySem Py Cr
/-- the lots at the bits of x, from the j-th on -/
def sel (x : Nat) : Nat → List Lot → List Lot
  | _, [] => []
  | j, l :: S => if x / 2 ^ j % 2 = 1 then l :: sel x (j + 1) S else sel x (j + 1) S
def selT (y : Nat) : List Lot → List Lot
  | [] => []
  | l :: S => if y % 2 = 1 then l :: selT (y / 2) S else selT (y / 2) S
theorem sel_selT (x : Nat) : ∀ (j : Nat) (S : List Lot), sel x j S = selT (x / 2 ^ j) S
  | _, [] => rfl
  | j, l :: S => by
    rw [sel, selT, sel_selT x (j + 1) S, Nat.pow_succ, Nat.div_div_eq_div_mul]
theorem selT_sub : ∀ (y : Nat) (S : List Lot), (selT y S).Sublist S
  | _, [] => .slnil
  | y, l :: S => by
    rw [selT]
    split
    · exact (selT_sub (y / 2) S).cons₂ _
    · exact (selT_sub (y / 2) S).cons _
theorem sub_selT : ∀ {one S : List Lot}, one.Sublist S → ∃ y, y < 2 ^ S.length ∧ selT y S = one
  | _, _, .slnil => ⟨0, by decide, rfl⟩
  | _, _, .cons (l₂ := S) l h => by
    obtain ⟨y, h1, h2⟩ := sub_selT h
    refine ⟨2 * y, by rw [List.length_cons, Nat.pow_succ]; omega, ?_⟩
    rw [selT, if_neg (by omega), show 2 * y / 2 = y by omega, h2]
  | _, _, .cons₂ (l₂ := S) l h => by
    obtain ⟨y, h1, h2⟩ := sub_selT h
    refine ⟨2 * y + 1, by rw [List.length_cons, Nat.pow_succ]; omega, ?_⟩
    rw [selT, if_pos (by omega), show (2 * y + 1) / 2 = y by omega, h2]
/-- none meets one ahead of it -/
def apJ (F : List Lot) : Bool := (List.range F.length).all fun i => !((F.take i).any fun o => meetB (F.getD i []) o)
theorem apJ_iff (F : List Lot) : apJ F = true ↔ Apart F := by
  unfold apJ Cr.Apart
  rw [List.all_eq_true, List.pairwise_iff_getElem]
  constructor
  · intro h i j hi hj hij hm
    have q := h j (List.mem_range.mpr hj)
    rw [Bool.not_eq_true', List.any_eq_false] at q
    refine q F[i] (List.mem_take_iff_getElem.mpr ⟨i, by omega, rfl⟩) (meetB_iff.mpr ?_)
    rw [List.getD_eq_getElem?_getD, List.getElem?_eq_getElem hj]
    exact meet_symm hm
  · intro h j hj
    have hj := List.mem_range.mp hj
    rw [Bool.not_eq_true', List.any_eq_false]
    intro o ho hm
    obtain ⟨i, hi, e⟩ := List.mem_take_iff_getElem.mp ho
    have hm := meetB_iff.mp hm
    rw [List.getD_eq_getElem?_getD, List.getElem?_eq_getElem hj] at hm
    subst e
    exact h i j (by omega) hj (by omega) (meet_symm hm)
def bestF (S : List Lot) (b : Nat) (x : Nat) : Nat := if apJ (sel x 0 S) then max b (sel x 0 S).length else b
def bestL (S : List Lot) : Nat := (List.range (2 ^ S.length)).foldl (bestF S) 0
theorem fold_best (S : List Lot) : ∀ (l : List Nat) (a : Nat), a ≤ l.foldl (bestF S) a ∧ (∀ x ∈ l, apJ (sel x 0 S) = true → (sel x 0 S).length ≤ l.foldl (bestF S) a) ∧ (l.foldl (bestF S) a = a ∨ ∃ x ∈ l, apJ (sel x 0 S) = true ∧ l.foldl (bestF S) a = (sel x 0 S).length)
  | [], a => ⟨Nat.le_refl _, fun _ h => absurd h List.not_mem_nil, .inl rfl⟩
  | x :: l, a => by
    obtain ⟨h1, h2, h3⟩ := fold_best S l (bestF S a x)
    have hb : a ≤ bestF S a x := by unfold bestF; split <;> omega
    rw [List.foldl_cons]
    refine ⟨by omega, fun y hy ha => ?_, ?_⟩
    · rcases List.mem_cons.mp hy with e | e
      · subst e
        have : (sel y 0 S).length ≤ bestF S a y := by unfold bestF; rw [if_pos ha]; omega
        omega
      · exact h2 y e ha
    · rcases h3 with h3 | ⟨y, hy, ha, e⟩
      · rw [h3]
        unfold bestF
        split
        · rename_i ha
          by_cases hc : a ≤ (sel x 0 S).length
          · exact .inr ⟨x, List.mem_cons_self, ha, by omega⟩
          · exact .inl (by omega)
        · exact .inl rfl
      · exact .inr ⟨y, List.mem_cons_of_mem _ hy, ha, e⟩
theorem bestL_eq (S : List Lot) : bestL S = apN S := by
  obtain ⟨_, h2, h3⟩ := fold_best S (List.range (2 ^ S.length)) 0
  refine Nat.le_antisymm ?_ ?_
  · rcases h3 with e | ⟨x, _, ha, e⟩
    · unfold bestL; rw [e]; exact Nat.zero_le _
    · unfold bestL
      rw [e]
      refine (fold_max ((apF S).map List.length) 0).2.1 _ (List.mem_map.mpr ⟨_, mem_apF.mpr ⟨?_, (apJ_iff _).mp ha⟩, rfl⟩)
      rw [sel_selT]; exact selT_sub _ _
  · obtain ⟨_, _, h⟩ := fold_max ((apF S).map List.length) 0
    unfold apN
    rcases h with h | h
    · rw [h]; exact Nat.zero_le _
    · obtain ⟨one, ho, e⟩ := List.mem_map.mp h
      obtain ⟨hs, ha⟩ := mem_apF.mp ho
      obtain ⟨y, hy, e2⟩ := sub_selT hs
      have e3 : sel y 0 S = one := by rw [sel_selT, Nat.pow_zero, Nat.div_one, e2]
      have q := h2 y (List.mem_range.mpr hy) (by rw [e3]; exact (apJ_iff _).mpr ha)
      rw [e3] at q
      rw [← e]
      exact q
def atI : D → Nat
  | .tuple [.int i, _] => i.toNat
  | _ => 0
def atL : D → Lot
  | .tuple [_, d] => unT d
  | _ => []
theorem enum_sel (x : Nat) : ∀ (S : List Lot) (j : Nat), ((((List.range' j S.length).zip (S.map tD)).map fun p => PyData.tuple [.int (p.1 : Nat), p.2]).filter fun d => decide (x / 2 ^ (atI d) % 2 = 1)).map (fun d => tD (atL d)) = (sel x j S).map tD
  | [], j => rfl
  | l :: S, j => by
    have ih := enum_sel x S (j + 1)
    rw [List.length_cons, List.range'_succ, List.map_cons, List.zip_cons_cons, List.map_cons, List.filter_cons]
    have e1 : atI (.tuple [.int ((j : Nat) : Int), tD l]) = j := Int.toNat_natCast j
    have e2 : atL (.tuple [.int ((j : Nat) : Int), tD l]) = l := unT_tD l
    simp only [e1]
    rw [sel]
    by_cases hb : x / 2 ^ j % 2 = 1
    · simp only [hb, decide_true, if_true, List.map_cons, e2, ih]
    · simp only [hb, decide_false, if_false, Bool.false_eq_true, ih]
theorem enumD_tD (S : List Lot) : enumD (S.map tD) = ((List.range' 0 S.length).zip (S.map tD)).map fun p => PyData.tuple [.int (p.1 : Nat), p.2] := by
  unfold enumD; rw [List.length_map, List.range_eq_range']
theorem mem_enumD {S : List Lot} {d : D} (h : d ∈ enumD (S.map tD)) : ∃ (i : Nat) (hi : i < S.length), d = .tuple [.int (i : Int), tD S[i]] := by
  unfold enumD at h
  obtain ⟨⟨i, y⟩, hp, rfl⟩ := List.mem_map.mp h
  obtain ⟨k, hk, e⟩ := List.getElem_of_mem hp
  rw [List.getElem_zip] at e
  have e1 : i = k := by have := congrArg Prod.fst e; rw [List.getElem_range] at this; exact this.symm
  have e2 : y = (S.map tD)[k]'(by simp at hk; simpa using hk) := (congrArg Prod.snd e).symm
  subst e1
  have hk2 : i < S.length := by simp at hk; exact hk
  refine ⟨i, hk2, ?_⟩
  rw [e2, List.getElem_map]
def lp31 : Ss := match b31 with | .cons _ (.cons (.for_ _ _ b _) _) => b | _ => .nil
def tg31 : Tg := match b31 with | .cons _ (.cons (.for_ t _ _ _) _) => t | _ => .nm 0 "" ⟨0, 0, 0, 0⟩
abbrev lv (S : List Lot) : Sl := .val (.list (S.map tD))
abbrev fr31 (S : List Lot) (b x : Nat) (s : Sl) : Fr := [lv S, iv (b : Int), iv (x : Int), s, .no, .no, .no, .no]
theorem sel_len (x : Nat) (S : List Lot) : (sel x 0 S).length ≤ S.length := by rw [sel_selT]; exact (selT_sub _ _).length_le
theorem b1_allR (n : Nat) (f : Nat → Bool) : b1M .all (.list ((List.range n).map fun i => PyData.bool (f i))) = some (.dt (.bool ((List.range n).all f))) := b1_all f (List.range n)
theorem any_meet (one : Lot) (F : List Lot) : b1M .any (.list ((F.map tD).map fun d => PyData.bool (meetB one (unT d)))) = some (.dt (.bool (F.any fun o => meetB one o))) := any_sub F fun o => meetB one o
theorem turn31 (n : Nat) (S : List Lot) (b x : Nat) (s : Sl) (hS : S.length ≤ 10) (hl : ∀ l ∈ S, l.length ≤ 100) (hb : b ≤ 100) (hx : x ≤ 100000) (hs : ∀ ds, s ≠ .own ds) :
    ∃ s', evSs (Φn (n + 1)) [] lp31 (fr31 S b x s) = .nx (fr31 S (bestF S b x) x s') ∧ ∀ ds, s' ≠ .own ds := by
  have e30 : (10 : Int) ^ 30 = 1000000000000000000000000000000 := by decide
  have hF : ∀ l ∈ sel x 0 S, l.length ≤ 100 := fun l h => hl l ((by rw [sel_selT] at h; exact (selT_sub _ _).subset h))
  have hFl := sel_len x S
  have p4 : plainSlots [4, 5] (fr31 S b x s) = true := rfl
  have h1 : ev (Φn (n + 1)) (match lp31 with | .cons (.asg _ _ _ e _) _ => e | _ => .non 0 ⟨0, 0, 0, 0⟩) (fr31 S b x s) = .ok (.new ((sel x 0 S).map tD)) (fr31 S b x s) := by
    rw [← enum_sel x S 0, ← enumD_tD]
    refine w_flt (ρ := fr31 S b x s) (ds := enumD (S.map tD)) (fun d => decide (x / 2 ^ (atI d) % 2 = 1)) (fun d => tD (atL d)) (w_enm (w_val rfl) rfl) rfl rfl (by unfold enumD; rw [List.length_map, List.length_zip, List.length_range, List.length_map]; exact sl_ok (by omega)) fun d hd => ?_
    obtain ⟨i, hi, rfl⟩ := mem_enumD hd
    have hi2 : 2 ^ i ≤ 2 ^ 10 := Nat.pow_le_pow_right (by decide) (by omega)
    have h10 : (2 : Nat) ^ 10 = 1024 := by decide
    have hp0 : 0 < 2 ^ i := Nat.two_pow_pos i
    refine ⟨[lv S, iv (b : Int), iv (x : Int), s, iv (i : Int), .val (tD S[i]), .no, .no], rfl, ?_, fun _ => w_esc (w_val rfl) (by show Out.ok (tD S[i]) _ = Out.ok (tD (unT (tD S[i]))) _; rw [unT_tD]), rfl⟩
    rw [show atI (.tuple [.int (i : Int), tD S[i]]) = i from Int.toNat_natCast i]
    refine t_cmp (x := .dt (.int ((x : Int) / ((2 ^ i : Nat) : Int) % 2))) (w_bin (x := .dt (.int ((x : Int) / ((2 ^ i : Nat) : Int)))) (w_bin (w_val rfl) (w_call1 rfl (w_val rfl) rfl ((phi_call _ _ _).trans (lawpower_eq n (k := i) (by omega))) rfl) rfl rfl (bop_div (Int.natCast_pos.mpr hp0) (Int.lt_of_le_of_lt (Int.ofNat_le.mpr (by omega : 2 ^ i ≤ 1024)) (by decide)))) w_int rfl rfl (bop_mod (by decide))) w_int rfl rfl ((cmp_eqi _ _).trans ?_)
    rw [show (x : Int) / ((2 ^ i : Nat) : Int) % 2 = ((x / 2 ^ i % 2 : Nat) : Int) by rw [Int.natCast_emod, Int.natCast_ediv]; rfl]
    congr 1
    rw [decide_eq_decide]
    omega
  have h2 : tst (Φn (n + 1)) (match lp31 with | .cons _ (.cons (.iff c _ _ _) _) => c | _ => .non 0 ⟨0, 0, 0, 0⟩) (fr31 S b x (.own ((sel x 0 S).map tD))) = .ok (apJ (sel x 0 S)) (fr31 S b x (lv (sel x 0 S))) := by
    refine t_b1 (w_b1 (r := .dt (.bool (apJ (sel x 0 S)))) (w_map (ρ := fr31 S b x (lv (sel x 0 S))) (ds := enumD ((sel x 0 S).map tD)) (fun d => .bool (!((sel x 0 S).take (atI d)).any fun o => meetB (atL d) o)) (w_enm (w_own rfl) rfl) rfl rfl (by unfold enumD; rw [List.length_map, List.length_zip, List.length_range, List.length_map]; exact sl_ok (by omega)) fun d hd => ?_) rfl ?_) rfl
    · obtain ⟨i, hi, rfl⟩ := mem_enumD hd
      have e1 : atI (.tuple [.int (i : Int), tD (sel x 0 S)[i]]) = i := Int.toNat_natCast i
      have e2 : atL (.tuple [.int (i : Int), tD (sel x 0 S)[i]]) = (sel x 0 S)[i] := unT_tD _
      refine ⟨[lv S, iv (b : Int), iv (x : Int), lv (sel x 0 S), iv (i : Int), .no, .val (tD (sel x 0 S)[i]), .no], rfl, ?_, rfl⟩
      rw [e1, e2]
      refine w_esc (w_nt (v := ((sel x 0 S).take i).any fun o => meetB (sel x 0 S)[i] o) (w_b1 (r := .dt (.bool (((sel x 0 S).take i).any fun o => meetB (sel x 0 S)[i] o))) (w_map (ds := ((sel x 0 S).take i).map tD) (fun d => .bool (meetB (sel x 0 S)[i] (unT d))) (w_slen (w_shi (w_val rfl) (w_val rfl) rfl rfl (r := .new (((sel x 0 S).take i).map tD)) ?_) rfl rfl) rfl rfl (len_ok _ (by rw [List.length_take]; omega)) fun d hd => ?_) rfl (any_meet _ _)) rfl) rfl
      · show some (R.new (cutD ((sel x 0 S).map tD) none (some (i : Int)))) = _
        unfold cutD
        have hh : HT.sIx ((sel x 0 S).map tD).length ((sel x 0 S).map tD).length (some (i : Int)) = i := by
          rw [List.length_map]
          unfold HT.sIx
          have hneg : ¬ ((i : Int) < 0) := by omega
          simp only [hneg, if_false, Int.toNat_natCast]
          first | omega | (simp; omega)
        rw [hh]
        show some (R.new ((((sel x 0 S).map tD).drop (HT.sIx _ 0 none)).take (i - HT.sIx _ 0 none))) = _
        have h0 : HT.sIx ((sel x 0 S).map tD).length 0 none = 0 := rfl
        rw [h0, List.drop_zero, Nat.sub_zero, List.map_take]
      · obtain ⟨o, ho, rfl⟩ := List.mem_map.mp hd
        rw [unT_tD]
        have := hF _ (List.getElem_mem hi)
        exact ⟨_, rfl, w_esc (w_call2 rfl (w_val rfl) (w_val rfl) rfl rfl ((phi_call _ _ _).trans (lawmeets_eq n _ o (by omega))) rfl) rfl, rfl⟩
    · have e : (enumD ((sel x 0 S).map tD)).map (fun d => PyData.bool (!((sel x 0 S).take (atI d)).any fun o => meetB (atL d) o)) = (List.range (sel x 0 S).length).map fun i => PyData.bool (!((sel x 0 S).take i).any fun o => meetB ((sel x 0 S).getD i []) o) := by
        apply List.ext_getElem
        · unfold enumD; simp
        · intro i h1 h2
          have hi : i < (sel x 0 S).length := by simpa using h2
          have hi2 : i < ((sel x 0 S).map tD).length := by simpa using hi
          have eg : (enumD ((sel x 0 S).map tD))[i]'(by unfold enumD; simp; exact hi) = .tuple [.int (i : Int), tD (sel x 0 S)[i]] := by
            unfold enumD
            simp
          rw [List.getElem_map, List.getElem_map, List.getElem_range, eg]
          rw [show atI (.tuple [.int (i : Int), tD (sel x 0 S)[i]]) = i from Int.toNat_natCast i, show atL (.tuple [.int (i : Int), tD (sel x 0 S)[i]]) = (sel x 0 S)[i] from unT_tD _, List.getD_eq_getElem?_getD, List.getElem?_eq_getElem hi]
          rfl
      rw [e]
      exact b1_allR _ _
  unfold bestF
  cases ha : apJ (sel x 0 S) with
  | false =>
    rw [ha] at h2
    exact ⟨lv (sel x 0 S), w_asg h1 rfl (w_skip h2 w_end), fun _ z => nomatch z⟩
  | true =>
    rw [ha] at h2
    refine ⟨lv (sel x 0 S), w_asg h1 rfl (w_then h2 ?_), fun _ z => nomatch z⟩
    rw [w_asg (ρ2 := fr31 S (max b (sel x 0 S).length) x (lv (sel x 0 S))) (o := .nx (fr31 S (max b (sel x 0 S).length) x (lv (sel x 0 S)))) (w_b2 (r := .dt (.int (max (b : Int) ((sel x 0 S).length : Int)))) (w_val rfl) (w_b1 (r := .dt (.int ((sel x 0 S).length : Int))) (w_val rfl) rfl ?_) rfl rfl (b2_max _ _)) ?_ w_end]
    · rfl
    · show (some ((sel x 0 S).map tD).length).map (fun n : Nat => R.dt (PyData.int (n : Int))) = _
      rw [List.length_map]; rfl
    · show some _ = some _
      rw [show max (b : Int) ((sel x 0 S).length : Int) = ((max b (sel x 0 S).length : Nat) : Int) by omega]
      rfl
theorem best_le (S : List Lot) (b x : Nat) (h : b ≤ 100) (hS : S.length ≤ 10) : bestF S b x ≤ 100 := by
  have := sel_len x S
  unfold bestF; split <;> omega
theorem loop31 (n : Nat) (S : List Lot) (hS : S.length ≤ 10) (hl : ∀ l ∈ S, l.length ≤ 100) : ∀ (xs : List Nat) (b : Nat) (y s : Sl), b ≤ 100 → (∀ x ∈ xs, x ≤ 100000) → (∀ ds, s ≠ .own ds) →
    ∃ y' s', forLoop tg31.put (evSs (Φn (n + 1)) [] lp31) (xs.map fun (i : Nat) => PyData.int i) [lv S, iv (b : Int), y, s, .no, .no, .no, .no] = .nx [lv S, iv ((xs.foldl (bestF S) b : Nat) : Int), y', s', .no, .no, .no, .no]
  | [], b, y, s, _, _, _ => ⟨y, s, rfl⟩
  | x :: xs, b, y, s, hb, hx, hs => by
    obtain ⟨s1, t, hs1⟩ := turn31 n S b x s hS hl hb (hx x List.mem_cons_self) hs
    obtain ⟨y', s', e⟩ := loop31 n S hS hl xs (bestF S b x) (iv (x : Int)) s1 (best_le S b x hb hS) (fun z hz => hx z (List.mem_cons_of_mem _ hz)) hs1
    refine ⟨y', s', ?_⟩
    rw [List.map_cons, forLoop]
    show (match some (fr31 S b x s) with | none => SO.no | some ρ1 => match evSs (Φn (n + 1)) [] lp31 ρ1 with | .nx ρ2 => forLoop tg31.put (evSs (Φn (n + 1)) [] lp31) (xs.map fun (i : Nat) => PyData.int i) ρ2 | .ct ρ2 => forLoop tg31.put (evSs (Φn (n + 1)) [] lp31) (xs.map fun (i : Nat) => PyData.int i) ρ2 | .bk ρ2 => .nx ρ2 | o => o) = _
    simp only [t]
    exact e
theorem lawapart_eq (n : Nat) (S : List Lot) (hS : S.length ≤ 10) (hl : ∀ l ∈ S, l.length ≤ 100) : callN Pm (n + 2) 31 [lv S] = .ok (.val (.int (apN S : Int))) [] := by
  have hp : 2 ^ S.length ≤ 2 ^ 10 := Nat.pow_le_pow_right (by decide) hS
  have h10 : (2 : Nat) ^ 10 = 1024 := by decide
  obtain ⟨y', s', e⟩ := loop31 n S hS hl (List.range (2 ^ S.length)) 0 .no .no (by decide) (fun x hx => by have := List.mem_range.mp hx; omega) (fun _ z => nomatch z)
  rw [callF (i := 31) (f := f31) rfl]
  rw [← bestL_eq]
  refine w_run rfl (w_asg w_int rfl (w_for rfl (w_rngN (j := 2 ^ S.length) (w_call1 rfl (w_b1 (r := .dt (.int (S.length : Int))) (w_val rfl) rfl ?_) rfl ((phi_call _ _ _).trans (lawpower_eq n (k := S.length) (by omega))) rfl) rfl (by omega)) e (w_ret (w_val rfl)))) rfl
  show (some (S.map tD).length).map (fun n : Nat => R.dt (PyData.int (n : Int))) = _
  rw [List.length_map]; rfl
end K11
end
section
set_option Elab.async false
set_option linter.all false
set_option autoImplicit false
set_option maxRecDepth 100000
namespace Py
open PySem
section
variable {Φ : Fx} {io : List Nat} {ρ ρ1 ρ2 ρ3 ρ4 ρ5 : Fr} {a b c e : E} {x y z r : R} {d d1 d2 d3 : D} {ds es ks : List D} {p q : Pos} {i : Nat} {s : Str}
theorem w_none {k : Nat} : ev Φ (.non k p) ρ = .ok (.dt .none) ρ := by simp [ev]
theorem w_par3 {j : Nat} {n1 n2 : Str} {p1 p2 p3 p4 p5 : Pos} {k1 k2 : Nat} {rest : Ss} {o : SO} (h : ev Φ a ρ = .ok (.dt d1) ρ1) (h2 : ev Φ b ρ1 = .ok (.dt d2) ρ2) (hij : i ≠ j) (hp : putR io i (.dt d1) ρ2 = some ρ3) (hp2 : putR io j (.dt d2) ρ3 = some ρ4) (hr : evSs Φ io rest ρ4 = o) :
    evSs Φ io (.cons (.par i n1 p1 j n2 p2 k1 p3 a b k2 p4 p5) rest) ρ = o := by simp [evSs, evS, h, h2, hij, hp, hp2, hr]
end
end Py
namespace K11
open PySem Py Cr
/-- _law_caught -/
theorem caught_eq (n : Nat) {f g C : Nat} {nm : Str} {x y d : D} (ht : (([(199, 16, "crossing"), (216, 19, "fewest_crossing"), (221, 20, "apart_lots")] : List (Nat × Nat × Str)).find? fun e => e.1 == f) = some (f, g, nm)) (hm : (Φn n).md g = [false, false])
    (h : callN Pm n g [.val x, .val y] = .ex C d) (hC : C ∈ [111, 123, 147, 99, 135]) : callN Pm (n + 1) 34 [.val (fnD f), .val x, .val y] = .ok (.val (exD C d)) [] := by
  rw [callF (i := 34) (f := f34) rfl]
  exact w_run rfl (w_ret (w_idx (x := .dt (.tuple [exD C d, .none])) (r := .dt (exD C d)) (w_heardX (w_callv2 (n := "") rfl ht (x_call2 hm (w_val rfl) (w_val rfl) rfl rfl ((phi_call _ _ _).trans h))) hC) w_int rfl rfl rfl)) rfl
/-! what is drawn to be refused -/
theorem small_tD {l : Lot} (h : ∀ x ∈ l, 0 ≤ x ∧ x < 40) : small (tD l) = true ∧ wt (tD l) = 5 * l.length + 3 := by
  have q : smallL (l.map .int) = true ∧ wtL (l.map .int) = 5 * l.length := by
    induction l with
    | nil => exact ⟨rfl, rfl⟩
    | cons x l ih =>
      obtain ⟨h1, h2⟩ := ih fun y hy => h y (List.mem_cons_of_mem _ hy)
      have hx := h x List.mem_cons_self
      refine ⟨?_, ?_⟩
      · rw [List.map_cons, smallL, h1, small, decide_eq_true (show -1 ≤ x by omega), decide_eq_true (show x ≤ 60 by omega)]; rfl
      · rw [List.map_cons, wtL, h2, wt, List.length_cons]; omega
  refine ⟨?_, ?_⟩
  · show smallL (l.map .int) = true
    exact q.1
  · show wtL (l.map .int) + 3 = _
    rw [q.2]
theorem small_tDs {L : List Lot} (h : ∀ l ∈ L, (∀ x ∈ l, 0 ≤ x ∧ x < 40) ∧ l.length ≤ 40) : smallL (L.map tD) = true ∧ wtL (L.map tD) ≤ 205 * L.length := by
  induction L with
  | nil => exact ⟨rfl, Nat.le_refl _⟩
  | cons l L ih =>
    obtain ⟨h1, h2⟩ := ih fun y hy => h y (List.mem_cons_of_mem _ hy)
    obtain ⟨a1, a2⟩ := h l List.mem_cons_self
    obtain ⟨b1, b2⟩ := small_tD a1
    refine ⟨by rw [List.map_cons, smallL, b1, h1]; rfl, ?_⟩
    rw [List.map_cons, wtL, b2, List.length_cons]; omega
theorem depth_tDs (L : List Lot) : PyData.depthAll (L.map tD) ≤ 1 := (fine_tDs L).2.2
/-- may be shown -/
structure Sh (d : D) : Prop where
  sm : small d = true
  dp : d.depth ≤ 10
  wt : wt d ≤ 90000
theorem Sh.ok {d : D} (h : Sh d) : showOk d = true := show_ok h.sm (by have := h.dp; omega) (by have := h.wt; omega)
def badM : List D := [.none, .int (-1), .int 41, .bool true]
def oddM (m : Int) (L : List Lot) : List D := [.none, .list (L.map tD), .tuple [.int m], .tuple [.tuple [.int m]], .tuple [tD [0, 0]], .tuple (List.replicate 401 [PyData.tuple []]).flatten]
def lotM (m : Int) : List D := [.none, .list [.int 0], .tuple [.int m], .tuple [.bool true]]
def numM (m : Int) : List D := [.none, .int (-1), .int (m + 1), .bool true]
theorem bad_ok {d : D} (h : d ∈ badM) : BadN 0 40 d ∧ Sh d := by
  unfold badM at h
  simp only [List.mem_cons, List.not_mem_nil, or_false] at h
  rcases h with rfl | rfl | rfl | rfl
  · exact ⟨.inl rfl, rfl, by decide, by decide⟩
  · exact ⟨.inr (.inr ⟨_, rfl, by decide⟩), rfl, by decide, by decide⟩
  · exact ⟨.inr (.inr ⟨_, rfl, by decide⟩), rfl, by decide, by decide⟩
  · exact ⟨.inr (.inl ⟨_, rfl⟩), rfl, by decide, by decide⟩
theorem small_int {i : Int} (h : -1 ≤ i) (h2 : i ≤ 60) : small (.int i) = true := by rw [small, decide_eq_true h, decide_eq_true h2]; rfl
theorem num_ok {m : Int} (hm : 1 ≤ m) (hm2 : m ≤ 6) {d : D} (h : d ∈ numM m) : BadN 0 m d ∧ Sh d := by
  unfold numM at h
  simp only [List.mem_cons, List.not_mem_nil, or_false] at h
  rcases h with rfl | rfl | rfl | rfl
  · exact ⟨.inl rfl, rfl, by decide, by decide⟩
  · exact ⟨.inr (.inr ⟨_, rfl, by omega⟩), rfl, by decide, by decide⟩
  · exact ⟨.inr (.inr ⟨_, rfl, by omega⟩), small_int (by omega) (by omega), Nat.zero_le _, by show 3 ≤ _; decide⟩
  · exact ⟨.inr (.inl ⟨_, rfl⟩), rfl, by decide, by decide⟩
theorem fine_tup1 {d : D} (h : fine d = true) (hd : d.depth ≤ 5) : fine (.tuple [d]) = true := by
  obtain ⟨h1, h2, _⟩ := fine_parts h
  refine (fine_seq (ds := [d]) ⟨?_, ?_, ?_⟩ ?_).1
  · show (d.plain && true) = true; rw [h1]; rfl
  · show (d.canLay0 && true) = true; rw [h2]; rfl
  · show max d.depth 0 ≤ 40; omega
  · show (okD d && true) = true; rw [fine_okD h]; rfl
theorem lot_no {m : Int} (hm : 1 ≤ m) (hm2 : m ≤ 6) {d : D} (h : d ∈ lotM m) : (∀ n, callN Pm (n + 3) 4 [.val d, .val (.int m)] = .ok (.val (.bool false)) []) ∧ Sh d := by
  unfold lotM at h
  simp only [List.mem_cons, List.not_mem_nil, or_false] at h
  have fi : small (.int m) = true := small_int (by omega) (by omega)
  rcases h with rfl | rfl | rfl | rfl
  · exact ⟨fun n => lot_ff (n + 2) m rfl rfl, rfl, by decide, by decide⟩
  · exact ⟨fun n => lot_ff (n + 2) m (by decide +kernel) rfl, by decide, by decide, by decide⟩
  · refine ⟨fun n => lot_ff1 n m (fine_tup1 (fine_int m) (Nat.zero_le _)) (.inr (.inr ⟨_, rfl, by omega⟩)), ?_, ?_, ?_⟩
    · show (small (.int m) && true) = true; rw [fi]; rfl
    · show max 0 0 + 1 ≤ 10; decide
    · show 3 + 2 + 0 + 3 ≤ 90000; decide
  · exact ⟨fun n => lot_ff1 n m (by decide +kernel) (.inr (.inl ⟨_, rfl⟩)), by decide, by decide, by decide⟩
theorem odd_ok {m : Int} (hm : 1 ≤ m) (hm2 : m ≤ 6) {L : List Lot} (hL : ∀ l ∈ L, Lt m l) (hl : L.length ≤ 6) {d : D} (h : d ∈ oddM m L) : BadLs m d ∧ Sh d := by
  unfold oddM at h
  simp only [List.mem_cons, List.not_mem_nil, or_false] at h
  have fi : small (.int m) = true := small_int (by omega) (by omega)
  have fm := fine_int m
  rcases h with rfl | rfl | rfl | rfl | rfl | rfl
  · exact ⟨.tup rfl rfl, rfl, by decide, by decide⟩
  · obtain ⟨a1, a2, a3⟩ := fine_tDs L
    obtain ⟨s1, s2⟩ := small_tDs (L := L) fun l hx => ⟨fun x hx2 => by have := (hL l hx).2 x hx2; omega, rng_len (m := m) (k := 40) (by omega) (hL l hx).1 (hL l hx).2⟩
    refine ⟨.tup (fine_seq ⟨a1, a2, by omega⟩ (okL_tDs _)).2 rfl, ?_, ?_, ?_⟩
    · show smallL (L.map tD) = true; exact s1
    · show PyData.depthAll (L.map tD) + 1 ≤ 10; omega
    · show wtL (L.map tD) + 2 ≤ 90000; omega
  · refine ⟨.one (fine_tup1 fm (Nat.zero_le _)) fm fun n => lot_ff (n + 2) m fm rfl, ?_, ?_, ?_⟩
    · show (small (.int m) && true) = true; rw [fi]; rfl
    · show max 0 0 + 1 ≤ 10; decide
    · show 3 + 2 + 0 + 3 ≤ 90000; decide
  · have f1 := fine_tup1 fm (Nat.zero_le _)
    refine ⟨.one (fine_tup1 f1 (by show max 0 0 + 1 ≤ 5; decide)) f1 fun n => lot_ff1 n m f1 (.inr (.inr ⟨_, rfl, by omega⟩)), ?_, ?_, ?_⟩
    · show ((small (.int m) && true) && true) = true; rw [fi]; rfl
    · show max (max 0 0 + 1) 0 + 1 ≤ 10; decide
    · show (3 + 2 + 0 + 3) + 2 + 0 + 3 ≤ 90000; decide
  · exact ⟨.one (by decide +kernel) (by decide +kernel) fun n => lot_ff00 n m hm, by decide, by decide, by decide⟩
  · exact ⟨.many (by decide +kernel) (by decide +kernel), by decide +kernel, by decide +kernel, by decide +kernel⟩
end K11
end
section
set_option Elab.async false
set_option linter.all false
set_option autoImplicit false
set_option maxRecDepth 100000
namespace K11
open PySem Py Cr
def attD : D → D
  | .dict [_, (_, d)] => d
  | _ => .none
theorem attD_ex (C : Nat) (d : D) : attD (exD C d) = d := rfl
abbrev CsL : List Nat := [111, 123, 147, 99, 135]
def lp33 : Ss := match b33 with | .cons _ (.cons _ (.cons (.for_ _ _ b _) _)) => b | _ => .nil
def tg33 : Tg := match b33 with | .cons _ (.cons _ (.cons (.for_ t _ _ _) _)) => t | _ => .nm 0 "" ⟨0, 0, 0, 0⟩
abbrev fr33 (pot : List D) (m : Int) (L : List Lot) (bad odd lot num : D) (c s : Sl) : Fr := [.own pot, iv m, tv L, .val bad, .val odd, c, s, .val lot, .val num, .no]
/-- may be shown, larger -/
structure Sh2 (d : D) : Prop where
  sm : small d = true
  dp : d.depth ≤ 11
  wt : wt d ≤ 190000
theorem Sh2.ok {d : D} (h : Sh2 d) : showOk d = true := show_ok2 h.sm (by have := h.dp; omega) (by have := h.wt; omega)
theorem sh_pair {a b : D} (h : Sh a) (k : Sh b) : Sh2 (.list [a, b]) := by
  have h1 := h.wt; have h2 := h.dp; have k2 := k.dp; have k1 := k.wt
  refine ⟨?_, ?_, ?_⟩
  · show (small a && (small b && true)) = true
    rw [h.sm, k.sm]; rfl
  · show max a.depth (max b.depth 0) + 1 ≤ 11; omega
  · show wt a + 2 + (wt b + 2 + 0) + 2 ≤ 190000; omega
/-- one of the three calls -/
theorem turn33 (n : Nat) {pot : List D} {m : Int} {L : List Lot} {bad odd lot num : D} {f g : Nat} {nm : Str} {s : Sl} (ht : (([(199, 16, "crossing"), (216, 19, "fewest_crossing"), (221, 20, "apart_lots")] : List (Nat × Nat × Str)).find? fun e => e.1 == f) = some (f, g, nm)) (hm : (Φn n).md g = [false, false])
    (h1 : callN Pm n g [.val odd, .val bad] = .ex 111 bad) (h2 : callN Pm n g [.val odd, .val (.int m)] = .ex 123 odd) (hs : Sh2 (.list [bad, odd])) :
    ∃ s', evSs (Φn (n + 1)) [0] lp33 (fr33 pot m L bad odd lot num (.val (fnD f)) s) = .nx (fr33 pot m L bad odd lot num (.val (fnD f)) s') := by
  refine ⟨.val (.list [exD 111 bad, exD 123 odd]), ?_⟩
  refine w_asg (r := .new [exD 111 bad, exD 123 odd]) (w_lst (w_evs (w_call3 rfl (w_val rfl) (w_val rfl) (w_val rfl) rfl rfl rfl ((phi_call _ _ _).trans (caught_eq n ht hm h1 (by decide))) rfl) rfl (w_evs (w_call3 rfl (w_val rfl) (w_val rfl) (w_val rfl) rfl rfl rfl ((phi_call _ _ _).trans (caught_eq n ht hm h2 (by decide))) rfl) rfl w_evs_nil)) (sl_ok (show 2 ≤ 100000 by decide))) rfl ?_
  refine w_skip (t_bo (k := false) (t_nt (k := true) (t_isx (x := .dt (exD 111 bad)) (d := bad) (w_idx (w_own rfl) w_int rfl rfl rfl) rfl)) (tb_go (k := false) (t_nt (k := true) (t_isx (x := .dt (exD 123 odd)) (d := odd) (w_idx (w_own rfl) w_int rfl rfl rfl) rfl)) tb_nil)) ?_
  refine w_skip (ρ1 := fr33 pot m L bad odd lot num (.val (fnD f)) (.val (.list [exD 111 bad, exD 123 odd]))) (t_cmp (x := .dt (.str (PyData.shown (.list [bad, odd])))) (w_rep (d := .list [bad, odd]) (w_map (ρ := fr33 pot m L bad odd lot num (.val (fnD f)) (.val (.list [exD 111 bad, exD 123 odd]))) (ds := [exD 111 bad, exD 123 odd]) attD (w_slen (w_own rfl) rfl rfl) rfl rfl (sl_ok (show 2 ≤ 100000 by decide)) fun d hd => ?_) rfl hs.ok) (w_rep (d := .list [bad, odd]) (w_lst (w_evs (w_val rfl) rfl (w_evs (w_val rfl) rfl w_evs_nil)) (sl_ok (show 2 ≤ 100000 by decide))) rfl hs.ok) rfl rfl (show_ne hs.sm)) w_end
  simp only [List.mem_cons, List.not_mem_nil, or_false] at hd
  rcases hd with rfl | rfl
  · exact ⟨_, rfl, w_esc (w_attr (C := 111) (w_val rfl) rfl (by decide)) rfl, rfl⟩
  · exact ⟨_, rfl, w_esc (w_attr (C := 123) (w_val rfl) rfl (by decide)) rfl, rfl⟩
theorem loop33 (k : Nat) {pot : List D} {m : Int} {L : List Lot} {bad odd lot num : D} (hm0 : 0 ≤ m) (hm : m ≤ 40) (hb : BadN 0 40 bad) (ho : BadLs m odd) (hs : Sh2 (.list [bad, odd])) :
    ∃ c' s', forLoop tg33.put (evSs (Φn (k + 8)) [0] lp33) [fnD 199, fnD 216, fnD 221] (fr33 pot m L bad odd lot num .no .no) = .nx (fr33 pot m L bad odd lot num c' s') := by
  obtain ⟨s1, t1⟩ := turn33 (k + 7) (pot := pot) (m := m) (L := L) (lot := lot) (num := num) (f := 199) (g := 16) (nm := "crossing") (s := .no) rfl rfl (ex16 (checklots_exM (k + 1) hb)) (ex16 (checklots_ex (k + 1) hm0 hm ho)) hs
  obtain ⟨s2, t2⟩ := turn33 (k + 7) (pot := pot) (m := m) (L := L) (lot := lot) (num := num) (f := 216) (g := 19) (nm := "fewest_crossing") (s := s1) rfl rfl (ex19 (checklots_exM k hb)) (ex19 (checklots_ex k hm0 hm ho)) hs
  obtain ⟨s3, t3⟩ := turn33 (k + 7) (pot := pot) (m := m) (L := L) (lot := lot) (num := num) (f := 221) (g := 20) (nm := "apart_lots") (s := s2) rfl rfl (ex20 (checklots_exM (k + 1) hb)) (ex20 (checklots_ex (k + 1) hm0 hm ho)) hs
  refine ⟨.val (fnD 221), s3, ?_⟩
  rw [forLoop]
  show (match some (fr33 pot m L bad odd lot num (.val (fnD 199)) .no) with | none => SO.no | some ρ1 => match evSs (Φn (k + 8)) [0] lp33 ρ1 with | .nx ρ2 => forLoop tg33.put (evSs (Φn (k + 8)) [0] lp33) [fnD 216, fnD 221] ρ2 | .ct ρ2 => forLoop tg33.put (evSs (Φn (k + 8)) [0] lp33) [fnD 216, fnD 221] ρ2 | .bk ρ2 => .nx ρ2 | o => o) = _
  simp only [t1]
  rw [forLoop]
  show (match some (fr33 pot m L bad odd lot num (.val (fnD 216)) s1) with | none => SO.no | some ρ1 => match evSs (Φn (k + 8)) [0] lp33 ρ1 with | .nx ρ2 => forLoop tg33.put (evSs (Φn (k + 8)) [0] lp33) [fnD 221] ρ2 | .ct ρ2 => forLoop tg33.put (evSs (Φn (k + 8)) [0] lp33) [fnD 221] ρ2 | .bk ρ2 => .nx ρ2 | o => o) = _
  simp only [t2]
  rw [forLoop]
  show (match some (fr33 pot m L bad odd lot num (.val (fnD 221)) s2) with | none => SO.no | some ρ1 => match evSs (Φn (k + 8)) [0] lp33 ρ1 with | .nx ρ2 => forLoop tg33.put (evSs (Φn (k + 8)) [0] lp33) [] ρ2 | .ct ρ2 => forLoop tg33.put (evSs (Φn (k + 8)) [0] lp33) [] ρ2 | .bk ρ2 => .nx ρ2 | o => o) = _
  simp only [t3]
  rfl
theorem refused_eq (k K : Nat) {pot : List D} (h : PotOk K pot) (hK : K ≤ 8000) {m : Int} (hm : 1 ≤ m) (hm2 : m ≤ 6) {L : List Lot} (hL : ∀ l ∈ L, Lt m l) (hl : L.length ≤ 6) :
    ∃ pot', callN Pm (k + 9) 33 [.own pot, iv m, tv L] = .ok (.val (.bool true)) [.own pot'] ∧ PotOk (K + 4) pot' := by
  have len40 : ∀ l ∈ L, l.length ≤ 40 := fun l hx => rng_len (m := m) (k := 40) (by omega) (hL l hx).1 (hL l hx).2
  have ck : ∀ n, callN Pm (n + 5) 12 [tv L, iv m] = .ok (.val .none) [] := fun n => checklots_eq n L m (by omega) (by omega) (by omega) fun l hx => ⟨hL l hx, by have := len40 l hx; omega⟩
  obtain ⟨bad, p1, e1, q1, y1⟩ := lawof_eq (k + 6) K h (by omega) (ds := badM) (by decide) (by decide)
  obtain ⟨odd, p2, e2, q2, y2⟩ := lawof_eq (k + 6) (K + 1) q1 (by omega) (ds := oddM m L) (fun z => nomatch z) (by show 6 ≤ 10000; decide)
  obtain ⟨lot, p3, e3, q3, y3⟩ := lawof_eq (k + 6) (K + 2) q2 (by omega) (ds := lotM m) (fun z => nomatch z) (by show 4 ≤ 10000; decide)
  obtain ⟨num, p4, e4, q4, y4⟩ := lawof_eq (k + 6) (K + 3) q3 (by omega) (ds := numM m) (fun z => nomatch z) (by show 4 ≤ 10000; decide)
  obtain ⟨b1, b2⟩ := bad_ok y1
  obtain ⟨o1, o2⟩ := odd_ok hm hm2 hL hl y2
  obtain ⟨l1, l2⟩ := lot_no hm hm2 y3
  obtain ⟨u1, u2⟩ := num_ok hm hm2 y4
  obtain ⟨c', s', el⟩ := loop33 k (pot := p4) (m := m) (L := L) (lot := lot) (num := num) (by omega) (by omega) b1 o1 (sh_pair b2 o2)
  have x17 : callN Pm (k + 8) 17 [tv L, iv m, .val lot] = .ex 99 lot := ex17 (n := k + 4) (ck (k + 2)) (l1 (k + 4))
  have x18 : callN Pm (k + 8) 18 [tv L, iv m, .val lot] = .ex 99 lot := ex18 (n := k + 7) (ex17 (n := k + 3) (ck (k + 1)) (l1 (k + 3)))
  have x21 : callN Pm (k + 8) 21 [tv L, iv m, .val num] = .ex 135 num := ex21 (n := k + 5) (ck (k + 2)) u1
  refine ⟨p4, ?_, q4⟩
  rw [callF (i := 33) (f := f33) rfl]
  have d1 : evSs (Φn (k + 8)) [0] (match b33 with | .cons _ (.cons _ (.cons _ r)) => r | _ => .nil) (fr33 p4 m L bad odd lot num c' s') = .rt (.dt (.bool true)) (fr33 p4 m L bad odd lot num c' (.own [exD 99 lot, exD 99 lot, exD 135 num])) := by
    refine w_asg (r := .new [exD 99 lot]) (w_lst (w_evs (w_idx (x := .dt (.tuple [exD 99 lot, .none])) (r := .dt (exD 99 lot)) (w_heardX (C := 99) (d := lot) (x_call3 rfl (w_val rfl) (w_val rfl) (w_val rfl) rfl rfl rfl ((phi_call _ _ _).trans x17)) (by decide)) w_int rfl rfl rfl) rfl w_evs_nil) (sl_ok (show 1 ≤ 100000 by decide))) rfl ?_
    refine w_exp (w_app (ds := [exD 99 lot]) (d := exD 99 lot) rfl (w_idx (x := .dt (.tuple [exD 99 lot, .none])) (r := .dt (exD 99 lot)) (w_heardX (C := 99) (d := lot) (x_call3 rfl (w_val rfl) (w_val rfl) (w_val rfl) rfl rfl rfl ((phi_call _ _ _).trans x18)) (by decide)) w_int rfl rfl rfl) rfl rfl (by show 1 < sizeLine; decide)) ?_
    refine w_exp (w_app (ds := [exD 99 lot, exD 99 lot]) (d := exD 135 num) rfl (w_idx (x := .dt (.tuple [exD 135 num, .none])) (r := .dt (exD 135 num)) (w_heardX (C := 135) (d := num) (x_call3 rfl (w_val rfl) (w_val rfl) (w_val rfl) rfl rfl rfl ((phi_call _ _ _).trans x21)) (by decide)) w_int rfl rfl rfl) rfl rfl (by show 2 < sizeLine; decide)) ?_
    refine w_skip (ρ1 := fr33 p4 m L bad odd lot num c' (.own [exD 99 lot, exD 99 lot, exD 135 num])) (t_nt (k := true) (t_b1 (w_b1 (r := .dt (.bool true)) (w_map (ρ := fr33 p4 m L bad odd lot num c' (.own [exD 99 lot, exD 99 lot, exD 135 num])) (ds := [exD 99 lot, exD 99 lot]) (fun _ => .bool true) (w_slen (w_shi (r := .new [exD 99 lot, exD 99 lot]) (w_own rfl) w_int rfl rfl rfl) rfl rfl) rfl rfl (sl_ok (show 2 ≤ 100000 by decide)) fun d hd => ?_) rfl rfl) rfl)) ?_
    · have e : d = exD 99 lot := by simpa using hd
      subst e
      exact ⟨_, rfl, w_esc (w_bo (w_isx (d := lot) (w_val rfl) rfl) (bo_go rfl (w_cmp (x := .dt (.str lot.shown)) (w_rep (d := lot) (w_attr (C := 99) (w_val rfl) rfl (by decide)) rfl l2.ok) (w_rep (d := lot) (w_val rfl) rfl l2.ok) rfl rfl (show_eq l2.sm)) bo_nil)) rfl, rfl⟩
    · exact w_ret (w_bo (w_isx (x := .dt (exD 135 num)) (d := num) (w_idx (w_own rfl) w_int rfl rfl rfl) rfl) (bo_go rfl (w_cmp (x := .dt (.str num.shown)) (w_rep (d := num) (w_attr (C := 135) (x := .dt (exD 135 num)) (w_idx (w_own rfl) w_int rfl rfl rfl) rfl (by decide)) rfl u2.ok) (w_rep (d := num) (w_val rfl) rfl u2.ok) rfl rfl (show_eq u2.sm)) bo_nil))
  refine w_run (r := .dt (.bool true)) (ρ := fr33 p4 m L bad odd lot num c' (.own [exD 99 lot, exD 99 lot, exD 135 num])) rfl (w_par3 (d1 := bad) (d2 := odd) (w_callO2 (r := .dt bad) rfl (w_own rfl) (w_lst (ds := badM) (w_evs w_none rfl (w_evs (w_neg w_int rfl) rfl (w_evs w_int rfl (w_evs w_bl rfl w_evs_nil)))) (sl_ok (show 4 ≤ 100000 by decide))) rfl rfl ((phi_call _ _ _).trans e1) rfl) (w_callO2 (r := .dt odd) rfl (w_own rfl) (w_lst (ds := oddM m L) (w_evs w_none rfl (w_evs (w_b1 (w_val rfl) rfl rfl) rfl (w_evs (w_tup (w_evs (w_val rfl) rfl w_evs_nil) (sl_ok (show 1 ≤ 100000 by decide))) rfl (w_evs (w_tup (w_evs (w_tup (w_evs (w_val rfl) rfl w_evs_nil) (sl_ok (show 1 ≤ 100000 by decide))) rfl w_evs_nil) (sl_ok (show 1 ≤ 100000 by decide))) rfl (w_evs (w_tup (w_evs (w_tup (w_evs w_int rfl (w_evs w_int rfl w_evs_nil)) (sl_ok (show 2 ≤ 100000 by decide))) rfl w_evs_nil) (sl_ok (show 1 ≤ 100000 by decide))) rfl (w_evs (w_rept (t := .dt (.tuple (List.replicate 401 [PyData.tuple []]).flatten)) (w_tup (w_evs (w_tup w_evs_nil (sl_ok (show 0 ≤ 100000 by decide))) rfl w_evs_nil) (sl_ok (show 1 ≤ 100000 by decide))) w_int rfl rfl rfl) rfl w_evs_nil)))))) (sl_ok (show 6 ≤ 100000 by decide))) rfl rfl ((phi_call _ _ _).trans e2) rfl) (by decide) rfl rfl ?_) rfl
  refine w_unp (ds := [lot, num]) (w_tup (w_evs (w_callO2 (r := .dt lot) rfl (w_own rfl) (w_lst (ds := lotM m) (w_evs w_none rfl (w_evs (w_lst (w_evs w_int rfl w_evs_nil) (sl_ok (show 1 ≤ 100000 by decide))) rfl (w_evs (w_tup (w_evs (w_val rfl) rfl w_evs_nil) (sl_ok (show 1 ≤ 100000 by decide))) rfl (w_evs (w_tup (w_evs w_bl rfl w_evs_nil) (sl_ok (show 1 ≤ 100000 by decide))) rfl w_evs_nil)))) (sl_ok (show 4 ≤ 100000 by decide))) rfl rfl ((phi_call _ _ _).trans e3) rfl) rfl (w_evs (w_callO2 (r := .dt num) rfl (w_own rfl) (w_lst (ds := numM m) (w_evs w_none rfl (w_evs (w_neg w_int rfl) rfl (w_evs (w_bin (w_val rfl) w_int rfl rfl rfl) rfl (w_evs w_bl rfl w_evs_nil)))) (sl_ok (show 4 ≤ 100000 by decide))) rfl rfl ((phi_call _ _ _).trans e4) rfl) rfl w_evs_nil)) (sl_ok (show 2 ≤ 100000 by decide))) rfl rfl rfl ?_
  exact w_for rfl (w_slen (ds := [fnD 199, fnD 216, fnD 221]) (w_tup (w_evs w_fnv rfl (w_evs w_fnv rfl (w_evs w_fnv rfl w_evs_nil))) (sl_ok (show 3 ≤ 100000 by decide))) rfl rfl) el d1
end K11
end
section
set_option Elab.async false
set_option linter.all false
set_option autoImplicit false
set_option maxRecDepth 100000
/-! What _law_right asks: plain. -/
namespace K11
open PySem Py Cr
structure Dr (m : Nat) (L : List Lot) : Prop where
  m1 : 1 ≤ m
  m6 : m ≤ 6
  len : L.length ≤ 6
  lt : ∀ l ∈ L, Lt m l
def ownL (m : Nat) (L : List Lot) : List Lot := (allS m).filter fun t => L.all fun l => meetB t l
theorem all_meet {L : List Lot} {t : Lot} : (L.all fun l => meetB t l) = true ↔ Hits L t := by
  rw [List.all_eq_true]
  exact ⟨fun h l hl => meetB_iff.mp (h l hl), fun h l hl => meetB_iff.mpr (h l hl)⟩
theorem mem_ownL {m : Nat} {L : List Lot} {t : Lot} : t ∈ ownL m L ↔ Lt m t ∧ Hits L t := by
  unfold ownL
  rw [List.mem_filter, mem_allS, all_meet]
section
variable {m : Nat} {L : List Lot} (c : Dr m L)
include c
theorem Dr.g : Good m L := good_low (m := m) (by have := c.m6; omega) (by omega) (by omega) (by have := c.m6; omega) (by have := c.len; omega) c.lt
theorem Dr.gD : Good m (crossL L) := good_low (m := m) (by have := c.m6; omega) (by omega) (by omega) (by have := c.m6; omega) (crossL_len c.g) (due_lt c.g)
theorem Dr.lens : ∀ l ∈ L, l.length ≤ 6 := fun l hl => rng_len (m := m) (by have := c.m6; omega) (c.lt l hl).1 (c.lt l hl).2
theorem Dr.lenD : ∀ l ∈ crossL L, l.length ≤ 6 := fun l hl => rng_len (m := m) (by have := c.m6; omega) (due_lt c.g l hl).1 (due_lt c.g l hl).2
theorem Dr.due : leastF (ownL m L) = crossL L := by
  refine ord_ext (ord_filter (ord_filter (ord_allS m) _) _) (cross_spec c.g).1 fun t => ?_
  rw [mem_leastF, (cross_spec c.g).2]
  constructor
  · rintro ⟨h1, h2⟩
    obtain ⟨h3, h4⟩ := mem_ownL.mp h1
    refine ⟨h3.1, h4, fun s hs hst => ?_⟩
    have e := h2 (norm s) (mem_ownL.mpr ⟨⟨norm_asc s, fun x hx => h3.2 x (hst x (mem_norm.mp hx))⟩, fun l hl => by
      obtain ⟨x, hx, hxl⟩ := hs l hl
      exact ⟨x, mem_norm.mpr hx, hxl⟩⟩) fun x hx => hst x (mem_norm.mp hx)
    intro x hx
    rw [← e] at hx
    exact mem_norm.mp hx
  · intro q
    have hl := due_lt c.g t (((cross_spec c.g).2 t).mpr q)
    refine ⟨mem_ownL.mpr ⟨hl, q.2.1⟩, fun o ho hs => ?_⟩
    obtain ⟨h3, h4⟩ := mem_ownL.mp ho
    exact sub_anti h3.1 q.1 hs (q.2.2 o h4 hs)
theorem Dr.core : leastF (bys L) = leastL L :=
  ord_ext (ord_filter (ord_bys L) _) (least_spec fun l hl => (c.lt l hl).1).1 fun x => by rw [mem_core, mem_least c.g]
theorem Dr.fewD : (crossL L).length ≤ 20 := len20 0 (fun t ht x hx => by have := (due_lt c.g t ht).2 x hx; have := c.m6; omega) (fun t ht => (due_lt c.g t ht).1) (fun t ht u hu h => min_anti (((cross_spec c.g).2 t).mp ht) (((cross_spec c.g).2 u).mp hu) h) (ord_nodup (cross_spec c.g).1)
theorem Dr.coreLen : (leastL L).length ≤ 6 := Nat.le_trans (least_len c.g) c.len
theorem Dr.coreLens : ∀ l ∈ leastL L, l.length ≤ 6 := fun l hl => c.lens l ((mem_least c.g).mp hl).1
theorem Dr.own (t : Lot) (ht : Lt m t) : (ownL m L).contains t = L.all fun l => meetB t l := by
  rw [Bool.eq_iff_iff, List.contains_iff_mem, mem_ownL, all_meet]
  exact ⟨fun h => h.2, fun h => ⟨ht, h⟩⟩
end
theorem alone_iff {lot : Lot} {x : Int} {L : List Lot} : aloneB lot x L = true ↔ Own L lot x := by
  refine ⟨fun h => ?_, alone_of⟩
  unfold aloneB at h
  obtain ⟨one, ho, h⟩ := List.any_eq_true.mp h
  obtain ⟨h1, h2⟩ := (Bool.and_eq_true _ _).mp h
  refine ⟨one, ho, List.contains_iff_mem.mp h1, fun y hy hne hm => ?_⟩
  rw [Bool.not_eq_true', List.any_eq_false] at h2
  exact h2 y (List.mem_filter.mpr ⟨hy, decide_eq_true hne⟩) (List.contains_iff_mem.mpr hm)
theorem Dr.leastB {m : Nat} {L : List Lot} (c : Dr m L) (t : Lot) (ht : Lt m t) : (crossL L).contains t = ((L.all fun l => meetB t l) && t.all fun x => aloneB t x L) := by
  rw [Bool.eq_iff_iff, List.contains_iff_mem, (cross_spec c.g).2, min_iff, Bool.and_eq_true, all_meet, List.all_eq_true]
  exact ⟨fun h => ⟨h.2.1, fun x hx => alone_iff.mpr (h.2.2 x hx)⟩, fun h => ⟨ht.1, h.1, fun x hx => alone_iff.mp (h.2 x hx)⟩⟩
theorem any_tD (S : List Lot) (t : Lot) : ((S.map tD).any fun z => PyData.eqv z (tD t)) = S.contains t := by
  rw [List.any_map, Bool.eq_iff_iff, List.any_eq_true, List.contains_iff_mem]
  constructor
  · rintro ⟨x, hx, h⟩
    have h : PyData.eqv (tD x) (tD t) = true := h
    rw [eqv_tD] at h
    exact of_decide_eq_true h ▸ hx
  · exact fun h => ⟨t, h, by show PyData.eqv (tD t) (tD t) = true; rw [eqv_tD]; exact decide_eq_true rfl⟩
theorem fine_Ls (S : List Lot) : fine (.list (S.map tD)) = true := by
  obtain ⟨a1, a2, a3⟩ := fine_tDs S
  exact (fine_seq ⟨a1, a2, by omega⟩ (okL_tDs _)).2
theorem in_Ls (S : List Lot) (t : Lot) : cmpop .In (tD t) (.list (S.map tD)) = some (S.contains t) := by
  unfold cmpop
  simp only [itemsD, fine_tD, fine_Ls, Bool.and_self, if_true, any_tD]
theorem nin_Ls (S : List Lot) (t : Lot) : cmpop .NotIn (tD t) (.list (S.map tD)) = some (!S.contains t) := by
  unfold cmpop
  simp only [itemsD, fine_tD, fine_Ls, Bool.and_self, if_true, any_tD]
theorem cmp_neB (a b : Bool) : cmpop .NotEq (.bool a) (.bool b) = some (a != b) := by
  cases a <;> cases b <;> rfl
theorem ne_self (b : Bool) : (b != b) = false := by cases b <;> rfl
theorem fewest_none (n : Nat) {m : Int} {L : List Lot} (h : Good m L) (ht : crossL L = []) : callN Pm (n + 7) 19 [.val (.tuple (L.map tD)), .val (.int m)] = .ok (.val .none) [] := by
  show runFn (Φn (n + 6)) f19 _ = _
  exact w_run rfl (w_asg (w_call2 rfl (w_val rfl) (w_val rfl) rfl rfl (crossing_eq n h) rfl) rfl (w_ret (w_ifeF (t_cmp (w_val rfl) (w_tup w_evs_nil (sl_ok (show 0 ≤ 100000 by decide))) rfl rfl ((eqv_tnil _).trans (by rw [decide_eq_false (by rw [ht]; simp)]))) w_none))) rfl
/-- how few, as a value -/
def headD : List Lot → D
  | [] => .none
  | t :: _ => .int (t.length : Int)
theorem fewest_any (n : Nat) {m : Int} {L : List Lot} (h : Good m L) : callN Pm (n + 7) 19 [.val (.tuple (L.map tD)), .val (.int m)] = .ok (.val (headD (crossL L))) [] := by
  cases e : crossL L with
  | nil => exact fewest_none n h e
  | cons t r => exact fewest_eq n h (t := t) (by rw [e]; rfl)
end K11
end
section
set_option Elab.async false
set_option linter.all false
set_option autoImplicit false
set_option maxRecDepth 100000
set_option maxHeartbeats 1000000
/-! _law_right, statement by statement, from its end on. -/
namespace K11
open PySem Py Cr
def dropS : Nat → Ss → Ss
  | 0, s => s
  | n + 1, .cons _ r => dropS n r
  | _ + 1, .nil => .nil
abbrev t35 (k : Nat) : Ss := dropS k b35
abbrev ow (L : List Lot) : Sl := .own (L.map tD)
abbrev fr35 (pot : List D) (m : Int) (s2 s3 s4 s5 s6 s7 s8 : Sl) : Fr := [.own pot, iv m, s2, s3, s4, s5, s6, s7, s8, .no, .no]
theorem idx0 (d : D) (ds : List D) : idxM (.list (d :: ds)) (.int 0) = some (.dt d) := by
  show (atD (d :: ds) 0).map R.dt = _
  unfold atD L2.atI
  have e : L2.ixN (d :: ds).length 0 = some 0 := by
    unfold L2.ixN
    rw [if_pos (by decide), if_pos (by simp)]
    rfl
  rw [e]
  rfl
theorem s12 (k K : Nat) {pot : List D} (h : PotOk K pot) (hK : K ≤ 8000) {m : Nat} {L : List Lot} (c : Dr m L) (s3 s4 s5 s6 s7 s8 : Sl) :
    ∃ pot', evSs (Φn (k + 9)) [0] (t35 12) (fr35 pot m (tv L) s3 s4 s5 s6 s7 s8) = .rt (.dt (.bool true)) (fr35 pot' m (tv L) s3 s4 s5 s6 s7 s8) ∧ PotOk (K + 4) pot' := by
  obtain ⟨pot', e, q⟩ := refused_eq k K h hK (m := (m : Int)) (by have := c.m1; omega) (by have := c.m6; omega) c.lt c.len
  exact ⟨pot', w_ret (w_callO3 (ρ4 := [.no, iv m, tv L, s3, s4, s5, s6, s7, s8, .no, .no]) (r := .dt (.bool true)) rfl (w_own rfl) (w_val rfl) (w_val rfl) rfl rfl rfl ((phi_call _ _ _).trans e) rfl), q⟩
def lp35 : Ss := match t35 11 with | .cons (.for_ _ _ b _) _ => b | _ => .nil
def tg35 : Tg := match t35 11 with | .cons (.for_ t _ _ _) _ => t | _ => .nm 0 "" ⟨0, 0, 0, 0⟩
theorem turn35 (k : Nat) {pot : List D} {m : Nat} {L : List Lot} (c : Dr m L) (s6 s7 s8 : Sl) {t : Lot} (ht : Lt m t) :
    evSs (Φn (k + 9)) [0] lp35 (fr35 pot m (tv L) (.val (tD t)) (lv (ownL m L)) (lv (crossL L)) s6 s7 s8) = .nx (fr35 pot m (tv L) (.val (tD t)) (lv (ownL m L)) (lv (crossL L)) s6 s7 s8) := by
  refine w_skip (t_bo (k := false) (t_cmp (x := .dt (.bool (L.all fun l => meetB t l))) (w_call3 rfl (w_val rfl) (w_val rfl) (w_val rfl) rfl rfl rfl ((phi_call _ _ _).trans (doescross_any (k + 3) c.g ht)) rfl) (w_cmp (w_val rfl) (w_val rfl) rfl rfl (in_Ls (ownL m L) t)) rfl rfl ?_) (tb_go (k := false) (t_cmp (x := .dt (.bool ((L.all fun l => meetB t l) && t.all fun x => aloneB t x L))) (w_call3 rfl (w_val rfl) (w_val rfl) (w_val rfl) rfl rfl rfl ((phi_call _ _ _).trans (isleast_any (k + 2) c.g ht)) rfl) (w_cmp (w_val rfl) (w_val rfl) rfl rfl (in_Ls (crossL L) t)) rfl rfl ?_) tb_nil)) w_end
  · rw [cmp_neB, c.own t ht, ne_self]
  · rw [cmp_neB, c.leastB t ht, ne_self]
theorem loop35 (k : Nat) {pot : List D} {m : Nat} {L : List Lot} (c : Dr m L) (s6 s7 s8 : Sl) : ∀ (S : List Lot) (s3 : Sl), (∀ t ∈ S, Lt m t) →
    ∃ s3', forLoop tg35.put (evSs (Φn (k + 9)) [0] lp35) (S.map tD) (fr35 pot m (tv L) s3 (lv (ownL m L)) (lv (crossL L)) s6 s7 s8) = .nx (fr35 pot m (tv L) s3' (lv (ownL m L)) (lv (crossL L)) s6 s7 s8)
  | [], s3, _ => ⟨s3, rfl⟩
  | t :: S, s3, h => by
    have e1 := turn35 k (pot := pot) c s6 s7 s8 (h t List.mem_cons_self)
    obtain ⟨s3', e⟩ := loop35 k (pot := pot) c s6 s7 s8 S (.val (tD t)) fun u hu => h u (List.mem_cons_of_mem _ hu)
    refine ⟨s3', ?_⟩
    rw [List.map_cons, forLoop]
    show (match some (fr35 pot m (tv L) (.val (tD t)) (lv (ownL m L)) (lv (crossL L)) s6 s7 s8) with | none => SO.no | some ρ1 => match evSs (Φn (k + 9)) [0] lp35 ρ1 with | .nx ρ2 => forLoop tg35.put (evSs (Φn (k + 9)) [0] lp35) (S.map tD) ρ2 | .ct ρ2 => forLoop tg35.put (evSs (Φn (k + 9)) [0] lp35) (S.map tD) ρ2 | .bk ρ2 => .nx ρ2 | o => o) = _
    simp only [e1]
    exact e
theorem s11 (k K : Nat) {pot : List D} (h : PotOk K pot) (hK : K ≤ 8000) {m : Nat} {L : List Lot} (c : Dr m L) (s3 s6 s7 s8 : Sl) :
    ∃ pot' ρ', evSs (Φn (k + 9)) [0] (t35 11) (fr35 pot m (tv L) s3 (lv (ownL m L)) (lv (crossL L)) s6 s7 s8) = .rt (.dt (.bool true)) (.own pot' :: ρ') ∧ PotOk (K + 4) pot' := by
  obtain ⟨s3', e⟩ := loop35 k (pot := pot) c s6 s7 s8 (allS m) s3 fun t ht => mem_allS.mp ht
  obtain ⟨pot', e2, q⟩ := s12 k K h hK c s3' (lv (ownL m L)) (lv (crossL L)) s6 s7 s8
  exact ⟨pot', _, w_for rfl (w_slen (w_call1 (r := .new ((allS m).map tD)) rfl (w_val rfl) rfl ((phi_call _ _ _).trans (lawlots_eq (k + 8) c.m6)) rfl) rfl rfl) e e2, q⟩
theorem s10 (k K : Nat) {pot : List D} (h : PotOk K pot) (hK : K ≤ 8000) {m : Nat} {L : List Lot} (c : Dr m L) (s3 s6 s7 : Sl) {num : Int} (h0 : 0 ≤ num) (h1 : num ≤ m) :
    ∃ pot' ρ', evSs (Φn (k + 9)) [0] (t35 10) (fr35 pot m (tv L) .no (lv (ownL m L)) (ow (crossL L)) s6 s7 (iv num)) = .rt (.dt (.bool true)) (.own pot' :: ρ') ∧ PotOk (K + 4) pot' := by
  obtain ⟨pot', ρ', e, q⟩ := s11 k K h hK c .no s6 s7 (iv num)
  refine ⟨pot', ρ', w_skip (ρ1 := fr35 pot m (tv L) .no (lv (ownL m L)) (lv (crossL L)) s6 s7 (iv num)) (t_cmp (x := .dt (.tuple ((cutL L num).map tD))) (y := .dt (.tuple ((cutL L num).map tD))) (w_call3 rfl (w_val rfl) (w_val rfl) (w_val rfl) rfl rfl rfl ((phi_call _ _ _).trans (cutshort_eq (k + 3) c.g h0 h1)) rfl) (w_b1 (x := .new ((cutL L num).map tD)) (d := .list ((cutL L num).map tD)) ?_ rfl rfl) rfl rfl (cmp_neTs _)) e, q⟩
  unfold cutL
  rw [← filter_tD (crossL L) fun t => decide ((t.length : Int) ≤ num)]
  have := c.fewD
  refine w_flt (ρ := fr35 pot m (tv L) .no (lv (ownL m L)) (lv (crossL L)) s6 s7 (iv num)) (ds := (crossL L).map tD) (fun d => decide (((unT d).length : Int) ≤ num)) id (w_slen (w_own rfl) rfl rfl) rfl rfl (len_ok _ (by omega)) fun d hd => ?_
  obtain ⟨l, hx, rfl⟩ := List.mem_map.mp hd
  rw [unT_tD]
  exact ⟨_, rfl, t_cmp (w_b1 (w_val rfl) rfl (b1_len l)) (w_val rfl) rfl rfl (cmp_le _ _), fun _ => w_esc (w_val rfl) rfl, rfl⟩
theorem s9 (k K : Nat) {pot : List D} (h : PotOk K pot) (hK : K ≤ 7000) {m : Nat} {L : List Lot} (c : Dr m L) (s6 s7 : Sl) :
    ∃ pot' ρ', evSs (Φn (k + 9)) [0] (t35 9) (fr35 pot m (tv L) .no (lv (ownL m L)) (ow (crossL L)) s6 s7 .no) = .rt (.dt (.bool true)) (.own pot' :: ρ') ∧ PotOk (K + 5) pot' := by
  obtain ⟨t, p1, e1, q1, a1, a2⟩ := take_eq (k + 8) K h (by omega) (u := (m : Int) + 1) (by omega) (by have := c.m6; omega)
  obtain ⟨pot', ρ', e, q⟩ := s10 k (K + 1) q1 (by omega) c .no s6 s7 (num := t) a1 (by omega)
  exact ⟨pot', ρ', w_asg (r := .dt (.int t)) (w_b1 (w_callO2 (r := .dt (.int t)) rfl (w_own rfl) (w_bin (w_val rfl) w_int rfl rfl rfl) rfl rfl ((phi_call _ _ _).trans e1) rfl) rfl rfl) rfl e, pot_mono q (by omega)⟩
theorem s8 (k K : Nat) {pot : List D} (h : PotOk K pot) (hK : K ≤ 7000) {m : Nat} {L : List Lot} (c : Dr m L) :
    ∃ pot' ρ', evSs (Φn (k + 9)) [0] (t35 8) (fr35 pot m (tv L) .no (lv (ownL m L)) (ow (crossL L)) (ow (leastL L)) (iv (apN (leastL L) : Int)) .no) = .rt (.dt (.bool true)) (.own pot' :: ρ') ∧ PotOk (K + 5) pot' := by
  have cl := c.coreLen
  cases hb : (leastL L).contains [] with
  | true =>
    obtain ⟨pot', ρ', e, q⟩ := s9 k K h hK c (ow (leastL L)) (iv (apN (leastL L) : Int))
    exact ⟨pot', ρ', w_skip (t_bo (k := false) (t_cmp (x := .dt (tD [])) (w_tup w_evs_nil (sl_ok (show 0 ≤ 100000 by decide))) (w_own rfl) rfl rfl ((nin_Ls (leastL L) []).trans (by rw [hb]; rfl))) (tb_stop (cc := true))) e, q⟩
  | false =>
    obtain ⟨pot', ρ', e, q⟩ := s9 k K h hK c (lv (leastL L)) (iv (apN (leastL L) : Int))
    refine ⟨pot', ρ', w_skip (t_bo (k := true) (t_cmp (x := .dt (tD [])) (w_tup w_evs_nil (sl_ok (show 0 ≤ 100000 by decide))) (w_own rfl) rfl rfl ((nin_Ls (leastL L) []).trans (by rw [hb]; rfl))) (tb_go (k := false) (t_bo (k := false) (t_cmp (y := .dt (.int (apN (leastL L) : Int))) (w_val rfl) (w_call1 rfl (w_own rfl) rfl ((phi_call _ _ _).trans (lawapart_eq (k + 7) (leastL L) (by omega) fun l hl => by have := c.coreLens l hl; omega)) rfl) rfl rfl ((cmp_ne _ _).trans (by rw [decide_eq_false (fun z => z rfl)]))) (tb_go (k := false) ?_ tb_nil)) tb_nil)) e, q⟩
    cases hd : crossL L with
    | nil => exact t_bo (k := false) (t_cmp (w_own rfl) (w_lst w_evs_nil (sl_ok (show 0 ≤ 100000 by decide))) rfl rfl ((eqv_nil []).trans rfl)) (tb_stop (cc := true))
    | cons t r =>
      have ha : ¬ (t.length : Int) < (apN (leastL L) : Int) := by
        have := apart_due c.g (t := t) (by rw [hd]; exact List.mem_cons_self)
        omega
      exact t_bo (k := true) (t_cmp (w_own rfl) (w_lst w_evs_nil (sl_ok (show 0 ≤ 100000 by decide))) rfl rfl ((eqv_nil (t :: r)).trans (by rw [decide_eq_true (fun z => nomatch z)]))) (tb_go (t_cmp (x := .dt (.int (t.length : Int))) (w_b1 (w_idx (r := .dt (tD t)) (w_own rfl) w_int rfl rfl (idx0 _ _)) rfl (b1_len t)) (w_val rfl) rfl rfl ((cmp_lt _ _).trans (by rw [decide_eq_false ha]))) tb_nil)
theorem s7 (k K : Nat) {pot : List D} (h : PotOk K pot) (hK : K ≤ 7000) {m : Nat} {L : List Lot} (c : Dr m L) :
    ∃ pot' ρ', evSs (Φn (k + 9)) [0] (t35 7) (fr35 pot m (tv L) .no (lv (ownL m L)) (ow (crossL L)) (ow (leastL L)) .no .no) = .rt (.dt (.bool true)) (.own pot' :: ρ') ∧ PotOk (K + 5) pot' := by
  obtain ⟨pot', ρ', e, q⟩ := s8 k K h hK c
  have cl := c.coreLen
  exact ⟨pot', ρ', w_asg (r := .dt (.int (apN (leastL L) : Int))) (w_call2 rfl (w_val rfl) (w_val rfl) rfl rfl ((phi_call _ _ _).trans (apart_eq (k + 3) c.g (by omega))) rfl) rfl e, q⟩
theorem sh_head {m : Nat} {L : List Lot} (c : Dr m L) : Sh (headD (crossL L)) := by
  cases e : crossL L with
  | nil => exact ⟨rfl, by decide, by decide⟩
  | cons t r =>
    have := c.lenD t (by rw [e]; exact List.mem_cons_self)
    exact ⟨small_int (by omega) (by omega), Nat.zero_le _, by show 3 ≤ _; decide⟩
theorem s6 (k K : Nat) {pot : List D} (h : PotOk K pot) (hK : K ≤ 7000) {m : Nat} {L : List Lot} (c : Dr m L) :
    ∃ pot' ρ', evSs (Φn (k + 9)) [0] (t35 6) (fr35 pot m (tv L) .no (lv (ownL m L)) (ow (crossL L)) (ow (leastL L)) .no .no) = .rt (.dt (.bool true)) (.own pot' :: ρ') ∧ PotOk (K + 5) pot' := by
  obtain ⟨pot', ρ', e, q⟩ := s7 k K h hK c
  have hs := sh_head c
  refine ⟨pot', ρ', w_skip (t_cmp (x := .dt (.str (headD (crossL L)).shown)) (y := .dt (.str (headD (crossL L)).shown)) (w_rep (d := headD (crossL L)) (x := .dt (headD (crossL L))) (w_call2 rfl (w_val rfl) (w_val rfl) rfl rfl ((phi_call _ _ _).trans (fewest_any (k + 2) c.g)) rfl) rfl hs.ok) (w_rep (d := headD (crossL L)) (x := .dt (headD (crossL L))) ?_ rfl hs.ok) rfl rfl (show_ne hs.sm)) e, q⟩
  cases hd : crossL L with
  | nil => exact w_ifeF (t_cmp (w_own rfl) (w_lst w_evs_nil (sl_ok (show 0 ≤ 100000 by decide))) rfl rfl ((eqv_nil []).trans rfl)) w_none
  | cons t r => exact w_ifeT (t_cmp (w_own rfl) (w_lst w_evs_nil (sl_ok (show 0 ≤ 100000 by decide))) rfl rfl ((eqv_nil (t :: r)).trans (by rw [decide_eq_true (fun z => nomatch z)]))) (w_b1 (w_idx (r := .dt (tD t)) (w_own rfl) w_int rfl rfl (idx0 _ _)) rfl (b1_len t))
theorem sh_due {m : Nat} {L : List Lot} (c : Dr m L) : Sh (.tuple ((crossL L).map tD)) := by
  obtain ⟨s1, s2⟩ := small_tDs (L := crossL L) fun l hx => ⟨fun x hx2 => by have := (due_lt c.g l hx).2 x hx2; have := c.m6; omega, by have := c.lenD l hx; omega⟩
  have := depth_tDs (crossL L)
  have := c.fewD
  refine ⟨?_, ?_, ?_⟩
  · show smallL ((crossL L).map tD) = true; exact s1
  · show PyData.depthAll ((crossL L).map tD) + 1 ≤ 10; omega
  · show wtL ((crossL L).map tD) + 3 ≤ 90000; omega
theorem s5 (k K : Nat) {pot : List D} (h : PotOk K pot) (hK : K ≤ 7000) {m : Nat} {L : List Lot} (c : Dr m L) :
    ∃ pot' ρ', evSs (Φn (k + 9)) [0] (t35 5) (fr35 pot m (tv L) .no (lv (ownL m L)) (ow (crossL L)) (ow (leastL L)) .no .no) = .rt (.dt (.bool true)) (.own pot' :: ρ') ∧ PotOk (K + 5) pot' := by
  obtain ⟨pot', ρ', e, q⟩ := s6 k K h hK c
  have hs := sh_due c
  have tw : crossL (crossL L) = leastL L := (twice c.g c.gD).trans c.core
  refine ⟨pot', ρ', w_skip (t_bo (k := false) (t_cmp (x := .dt (.str (PyData.shown (.tuple ((crossL L).map tD))))) (y := .dt (.str (PyData.shown (.tuple ((crossL L).map tD))))) (w_rep (d := .tuple ((crossL L).map tD)) (x := .dt (.tuple ((crossL L).map tD))) (w_call2 rfl (w_val rfl) (w_val rfl) rfl rfl ((phi_call _ _ _).trans (crossing_eq (k + 3) c.g)) rfl) rfl hs.ok) (w_rep (d := .tuple ((crossL L).map tD)) (x := .dt (.tuple ((crossL L).map tD))) (w_b1 (w_own rfl) rfl rfl) rfl hs.ok) rfl rfl (show_ne hs.sm)) (tb_go (k := false) (t_cmp (x := .dt (.tuple ((leastL L).map tD))) (y := .dt (.tuple ((leastL L).map tD))) (w_call2 (d1 := .tuple ((crossL L).map tD)) rfl (w_b1 (w_own rfl) rfl rfl) (w_val rfl) rfl rfl ((phi_call _ _ _).trans ((crossing_eq (k + 3) c.gD).trans (by rw [tw]))) rfl) (w_b1 (w_own rfl) rfl rfl) rfl rfl (cmp_neTs _)) tb_nil)) e, q⟩
end K11
end
section
set_option Elab.async false
set_option linter.all false
set_option autoImplicit false
set_option maxRecDepth 100000
set_option maxHeartbeats 1000000
namespace K11
open PySem Py Cr
theorem s4 (k K : Nat) {pot : List D} (h : PotOk K pot) (hK : K ≤ 7000) {m : Nat} {L : List Lot} (c : Dr m L) :
    ∃ pot' ρ', evSs (Φn (k + 9)) [0] (t35 4) (fr35 pot m (tv L) .no (ow (ownL m L)) .no .no .no .no) = .rt (.dt (.bool true)) (.own pot' :: ρ') ∧ PotOk (K + 5) pot' := by
  obtain ⟨pot', ρ', e, q⟩ := s5 k K h hK c
  have al := allS_len c.m6
  have ol : (ownL m L).length ≤ 64 := Nat.le_trans (List.length_filter_le _ _) al
  have cl := c.len
  have bl : (bys L).length ≤ L.length := nodup_len (ord_nodup (ord_bys L)) fun x hx => mem_bys.mp hx
  refine ⟨pot', ρ', w_par (ρ1 := fr35 pot m (tv L) .no (lv (ownL m L)) .no .no .no .no) (ρ2 := fr35 pot m (tv L) .no (lv (ownL m L)) .no .no .no .no) (ds := (crossL L).map tD) (es := (leastL L).map tD) (w_call1 (w := .own ((crossL L).map tD)) rfl (w_own rfl) rfl ((phi_call _ _ _).trans ((least_eq (k + 7) (ownL m L) (by omega) fun l hl => ?_).trans (by rw [c.due]))) rfl) (w_call1 (w := .own ((leastL L).map tD)) (d := .list ((bys L).map tD)) rfl (w_slam (r := .new ((bys L).map tD)) (ds := ((firsts L).mergeSort keyT.le).map tD) (fun d => kD (unT d)) (w_sset (w_val rfl) rfl (sset_tD L (by omega) _ rfl)) rfl rfl rfl ?_ ?_ ?_) rfl ((phi_call _ _ _).trans ((least_eq (k + 7) (bys L) (by omega) fun l hl => ?_).trans (by rw [c.core]))) rfl) (by decide) rfl rfl e, q⟩
  · have := rng_len (m := m) (k := 6) (by have := c.m6; omega) (mem_ownL.mp hl).1.1 (mem_ownL.mp hl).1.2
    omega
  · intro d hd
    obtain ⟨l, _, rfl⟩ := List.mem_map.mp hd
    rw [unT_tD]
    exact w_esc (w_tup (w_evs (w_b1 (w_val rfl) rfl (b1_len l)) rfl (w_evs (w_val rfl) rfl w_evs_nil)) (sl_ok (show 2 ≤ 100000 by decide))) rfl
  · intro d; rfl
  · rw [List.map_map, show ((fun d => kD (unT d)) ∘ tD) = kD from funext fun l => by simp [unT_tD]]
    exact skey_tD _
  · have := c.lens l (mem_bys.mp hl)
    omega
theorem s3 (k K : Nat) {pot : List D} (h : PotOk K pot) (hK : K ≤ 7000) {m : Nat} {L : List Lot} (c : Dr m L) (s3' : Sl) (h3 : s3' = .no) :
    ∃ pot' ρ', evSs (Φn (k + 9)) [0] (t35 3) (fr35 pot m (tv L) s3' .no .no .no .no .no) = .rt (.dt (.bool true)) (.own pot' :: ρ') ∧ PotOk (K + 5) pot' := by
  subst h3
  obtain ⟨pot', ρ', e, q⟩ := s4 k K h hK c
  have al := allS_len c.m6
  have cl := c.len
  refine ⟨pot', ρ', w_asg (r := .new ((ownL m L).map tD)) (ρ1 := fr35 pot m (tv L) .no .no .no .no .no .no) ?_ rfl e, q⟩
  unfold ownL
  rw [← filter_tD (allS m) fun t => L.all fun l => meetB t l]
  refine w_flt (ρ := fr35 pot m (tv L) .no .no .no .no .no .no) (ds := (allS m).map tD) (fun d => L.all fun l => meetB (unT d) l) id (w_slen (w_call1 (r := .new ((allS m).map tD)) rfl (w_val rfl) rfl ((phi_call _ _ _).trans (lawlots_eq (k + 8) c.m6)) rfl) rfl rfl) rfl rfl (len_ok _ (by omega)) fun d hd => ?_
  obtain ⟨t, ht, rfl⟩ := List.mem_map.mp hd
  rw [unT_tD]
  have hlt := mem_allS.mp ht
  have tl := rng_len (m := m) (k := 6) (by have := c.m6; omega) hlt.1 hlt.2
  refine ⟨_, rfl, t_b1 (w_b1 (r := .dt (.bool (L.all fun l => meetB t l))) (w_map (ds := L.map tD) (fun d => .bool (meetB t (unT d))) (w_slen (w_val rfl) rfl rfl) rfl rfl (len_ok _ (by omega)) fun d hd => ?_) rfl ?_) rfl, fun _ => w_esc (w_val rfl) rfl, rfl⟩
  · obtain ⟨l, hi, rfl⟩ := List.mem_map.mp hd
    rw [unT_tD]
    exact ⟨_, rfl, w_esc (w_call2 rfl (w_val rfl) (w_val rfl) rfl rfl ((phi_call _ _ _).trans (lawmeets_eq (k + 8) t l (by omega))) rfl) rfl, rfl⟩
  · rw [List.map_map]
    exact (congrArg (fun q => b1M .all (.list q)) (List.map_congr_left fun l _ => by simp [unT_tD])).trans (b1_all (fun l => meetB t l) L)
/-! the draws -/
def J2 (K m : Nat) (L0 : List Lot) (j : Nat) (ρ : Fr) : Prop := ∃ pot x3, ρ = fr35 pot m (lv L0) x3 .no .no .no .no .no ∧ PotOk (K + j) pot
abbrev cmp2S : E := match t35 2 with | .cons (.asg _ _ _ (.b1 _ _ e _) _) _ => e | _ => .non 0 ⟨0, 0, 0, 0⟩
theorem s2 (k K : Nat) {pot : List D} (h : PotOk K pot) (hK : K ≤ 6000) {m : Nat} (m1 : 1 ≤ m) (m6 : m ≤ 6) {L0 : List Lot} (l6 : L0.length ≤ 6) (hL : ∀ l ∈ L0, Lt m l) :
    ∃ pot' ρ', evSs (Φn (k + 9)) [0] (t35 2) (fr35 pot m (ow L0) .no .no .no .no .no .no) = .rt (.dt (.bool true)) (.own pot' :: ρ') ∧ PotOk (K + 11) pot' := by
  obtain ⟨es, ρ', e, p1, p2, x3, rfl, q2⟩ := w_cts (Φ := Φn (k + 9)) (ρ0 := fr35 pot m (ow L0) .no .no .no .no .no .no) (ρ := fr35 pot m (lv L0) .no .no .no .no .no .no)
    (e := match cmp2S with | .comp e _ _ _ _ _ _ => e | _ => .non 0 ⟨0, 0, 0, 0⟩) (t := match cmp2S with | .comp _ t _ _ _ _ _ => t | _ => .nm 0 "" ⟨0, 0, 0, 0⟩) (src := match cmp2S with | .comp _ _ s _ _ _ _ => s | _ => .e (.non 0 ⟨0, 0, 0, 0⟩))
    (c := match cmp2S with | .comp _ _ _ (some c) _ _ _ => c | _ => .non 0 ⟨0, 0, 0, 0⟩) (sc := sc34) (own := [("lot", 3)]) (p := match cmp2S with | .comp _ _ _ _ _ _ p => p | _ => ⟨0, 0, 0, 0⟩) (ds := L0.map tD)
    (J2 K m L0) id (w_slen (w_own rfl) rfl rfl) rfl (len_ok _ (by omega)) ⟨pot, .no, rfl, h⟩ (fun j d ρ hj hd ⟨po, x, e, hp⟩ => by
      subst e
      rw [List.length_map] at hj
      obtain ⟨l, hl, rfl⟩ := List.mem_map.mp hd
      by_cases hn : l = []
      · subst hn
        obtain ⟨t, po', et, r1, r2, r3⟩ := take_eq (k + 8) (K + j) hp (by omega) (u := 6) (by decide) (by decide)
        exact ⟨_, fr35 po' m (lv L0) (.val (tD [])) .no .no .no .no .no, decide (t = 0), rfl, t_bo (k := false) (t_cmp (y := .dt (tD [])) (w_val rfl) (w_tup w_evs_nil (sl_ok (show 0 ≤ 100000 by decide))) rfl rfl ((cmp_neT [] []).trans rfl)) (tb_go (cc := false) (t_cmp (w_callO2 (r := .dt (.int t)) rfl (w_own rfl) w_int rfl rfl ((phi_call _ _ _).trans et) rfl) w_int rfl rfl (cmp_eqi t 0)) tb_nil), ⟨po', _, rfl, pot_mono r1 (by omega)⟩, fun _ => w_esc (w_val rfl) rfl⟩
      · exact ⟨_, fr35 po m (lv L0) (.val (tD l)) .no .no .no .no .no, true, rfl, t_bo (k := true) (t_cmp (y := .dt (tD [])) (w_val rfl) (w_tup w_evs_nil (sl_ok (show 0 ≤ 100000 by decide))) rfl rfl ((cmp_neT l []).trans (by rw [decide_eq_true hn]))) (tb_stop (cc := false)), ⟨po, _, rfl, pot_mono hp (by omega)⟩, fun _ => w_esc (w_val rfl) rfl⟩)
  obtain ⟨L, hs, rfl⟩ := List.sublist_map_iff.mp p1
  rw [List.length_map] at q2
  have c : Dr m L := ⟨m1, m6, Nat.le_trans hs.length_le l6, fun l hl => hL l (hs.subset hl)⟩
  obtain ⟨pot', ρ', e2, q⟩ := s3 k (K + 6) (pot_mono q2 (by omega)) (by omega) c .no rfl
  exact ⟨pot', ρ', w_asg (r := .dt (.tuple (L.map tD))) (w_b1 (x := .new ((L.map tD).map id)) (d := .list (L.map tD)) e (by rw [List.map_id]; rfl) rfl) rfl e2, pot_mono q (by omega)⟩
def J1 (K m : Nat) (j : Nat) (ρ : Fr) : Prop := ∃ pot x, ρ = [.own pot, iv (m : Int), .no, .no, .no, .no, .no, .no, .no, x, .no] ∧ PotOk (K + 6 * j) pot
abbrev cmp1S : E := match t35 1 with | .cons (.asg _ _ _ e _) _ => e | _ => .non 0 ⟨0, 0, 0, 0⟩
theorem tD_pick {m : Int} : ∀ {ps : List (D × D)}, (∀ p ∈ ps, ∃ l, p.2 = tD l ∧ Lt m l) → ∃ L : List Lot, ps.map (·.2) = L.map tD ∧ ∀ l ∈ L, Lt m l
  | [], _ => ⟨[], rfl, fun _ h => absurd h List.not_mem_nil⟩
  | p :: ps, h => by
    obtain ⟨l, e, hl⟩ := h p List.mem_cons_self
    obtain ⟨L, e2, hL⟩ := tD_pick (ps := ps) fun q hq => h q (List.mem_cons_of_mem _ hq)
    refine ⟨l :: L, by rw [List.map_cons, e, e2, List.map_cons], fun k hk => ?_⟩
    rcases List.mem_cons.mp hk with rfl | hk
    · exact hl
    · exact hL k hk
theorem s1 (k K : Nat) {pot : List D} (h : PotOk K pot) (hK : K ≤ 5000) {m : Nat} (m1 : 1 ≤ m) (m6 : m ≤ 6) :
    ∃ pot' ρ', evSs (Φn (k + 9)) [0] (t35 1) (fr35 pot m .no .no .no .no .no .no .no) = .rt (.dt (.bool true)) (.own pot' :: ρ') ∧ PotOk (K + 48) pot' := by
  obtain ⟨t, pot1, et, r1, r2, r3⟩ := take_eq (k + 8) K h (by omega) (u := 7) (by decide) (by decide)
  have ht : t = ((t.toNat : Nat) : Int) := by omega
  obtain ⟨ps, ρ', e, p1, p2, pot2, x, rfl, p3⟩ := w_cst (Φ := Φn (k + 9)) (ρ0 := fr35 pot m .no .no .no .no .no .no .no) (ρ := fr35 pot1 m .no .no .no .no .no .no .no)
    (e := match cmp1S with | .comp e _ _ _ _ _ _ => e | _ => .non 0 ⟨0, 0, 0, 0⟩) (t := match cmp1S with | .comp _ t _ _ _ _ _ => t | _ => .nm 0 "" ⟨0, 0, 0, 0⟩) (src := match cmp1S with | .comp _ _ s _ _ _ _ => s | _ => .e (.non 0 ⟨0, 0, 0, 0⟩))
    (sc := sc33) (own := [("lap", 9)]) (p := match cmp1S with | .comp _ _ _ _ _ _ p => p | _ => ⟨0, 0, 0, 0⟩) (ds := (List.range t.toNat).map fun (i : Nat) => PyData.int i)
    (J1 (K + 1) m) (fun _ y => ∃ l, y = tD l ∧ Lt m l) (w_rngN (j := t.toNat) (w_callO2 (r := .dt (.int t)) rfl (w_own rfl) w_int rfl rfl ((phi_call _ _ _).trans et) rfl) (by rw [← ht]; rfl) (by omega)) rfl (by rw [List.length_map, List.length_range]; exact sl_ok (by omega)) ⟨pot1, .no, rfl, r1⟩ (fun j d ρ hj hd ⟨po, x, e, hp⟩ => by
      subst e
      rw [List.length_map, List.length_range] at hj
      obtain ⟨l, po', el, h1, h2⟩ := lawlot_eq (k + 7) (K + 1 + 6 * j) hp m6 (by omega)
      exact ⟨_, [.own po', iv (m : Int), .no, .no, .no, .no, .no, .no, .no, .val d, .no], tD l, rfl, w_esc (w_callO2 (r := .dt (tD l)) rfl (w_own rfl) (w_val rfl) rfl rfl ((phi_call _ _ _).trans el) rfl) rfl, ⟨l, rfl, h2⟩, po', _, rfl, pot_mono h1 (by omega)⟩)
  obtain ⟨L0, e0, hL⟩ := tD_pick p2
  have l6 : L0.length ≤ 6 := by
    have q1 := congrArg List.length e0
    have q2 := congrArg List.length p1
    simp only [List.length_map, List.length_range] at q1 q2
    omega
  rw [List.length_map, List.length_range] at p3
  obtain ⟨pot', ρ', e2, q⟩ := s2 k (K + 37) (pot_mono p3 (by omega)) (by omega) m1 m6 l6 hL
  exact ⟨pot', ρ', w_asg (r := .new (L0.map tD)) (ρ1 := fr35 pot2 m .no .no .no .no .no .no .no) (e.trans (by rw [e0]; rfl)) rfl e2, pot_mono q (by omega)⟩
theorem right_eq (k K : Nat) {pot : List D} (h : PotOk K pot) (hK : K ≤ 4000) : ∃ pot', callN Pm (k + 10) 35 [.own pot] = .ok (.val (.bool true)) [.own pot'] ∧ PotOk (K + 49) pot' := by
  obtain ⟨t, pot1, et, r1, r2, r3⟩ := take_eq (k + 8) K h (by omega) (u := 6) (by decide) (by decide)
  have ht : 1 + t = ((1 + t.toNat : Nat) : Int) := by omega
  obtain ⟨pot', ρ', e, q⟩ := s1 k (K + 1) r1 (by omega) (m := 1 + t.toNat) (by omega) (by omega)
  refine ⟨pot', ?_, pot_mono q (by omega)⟩
  rw [callF (i := 35) (f := f35) rfl]
  exact w_run (r := .dt (.bool true)) (ρ := .own pot' :: ρ') rfl (w_asg (r := .dt (.int ((1 + t.toNat : Nat) : Int))) (ρ1 := [.own pot1, .no, .no, .no, .no, .no, .no, .no, .no, .no, .no]) (w_bin w_int (w_b1 (r := .dt (.int t)) (w_callO2 (r := .dt (.int t)) rfl (w_own rfl) w_int rfl rfl ((phi_call _ _ _).trans et) rfl) rfl rfl) rfl rfl (by rw [← ht]; rfl)) rfl e) rfl
end K11
end
section
set_option Elab.async false
set_option linter.all false
set_option autoImplicit false
set_option maxRecDepth 100000
set_option maxHeartbeats 4000000
namespace K11
open PySem Py Cr
/-! Nine pairs apart; seventeen single parts. -/
def pairsL : List Lot := [[0, 1], [2, 3], [4, 5], [6, 7], [8, 9], [10, 11], [12, 13], [14, 15], [16, 17]]
def pairs8 : List Lot := [[0, 1], [2, 3], [4, 5], [6, 7], [8, 9], [10, 11], [12, 13], [14, 15]]
theorem pairs_lt : ∀ l ∈ pairsL, Lt 18 l := by
  unfold Lt Asc
  decide +kernel
theorem pairs_ord : Ord pairsL := by
  unfold Cr.Ord
  decide +kernel
theorem pairs8_sub : pairs8.Sublist pairsL := List.IsPrefix.sublist (l₁ := pairs8) (l₂ := pairsL) ⟨[[16, 17]], rfl⟩
theorem pairs8_lt : ∀ l ∈ pairs8, Lt 18 l := fun l hl => pairs_lt l (pairs8_sub.subset hl)
theorem apart_least {S : List Lot} (hA : ∀ l ∈ S, Asc l) (ho : Ord S) (d : ∀ x ∈ S, ∀ y ∈ S, subB y x = true → y = x) : leastL S = S := by
  have ls := least_spec (L := S) hA
  exact ord_ext ls.1 ho fun x => (ls.2 x).trans ⟨fun h => h.1, fun h => ⟨h, fun y hy hs => d x h y hy (subB_iff.mpr hs)⟩⟩
theorem pairs_least : leastL pairsL = pairsL := apart_least (fun l hl => (pairs_lt l hl).1) pairs_ord (by decide +kernel)
theorem pairs8_least : leastL pairs8 = pairs8 := apart_least (fun l hl => (pairs8_lt l hl).1) (List.Pairwise.sublist pairs8_sub pairs_ord) (by decide +kernel)
theorem all_fold : ∀ (S D F : List Lot), All (Hits D) F → (∀ l ∈ S, Asc l) → All (Hits (D ++ S)) (S.foldl step F)
  | [], D, F, h, _ => by simpa using h
  | l :: S, D, F, h, ha => by
    rw [List.foldl_cons, show D ++ l :: S = (D ++ [l]) ++ S by simp]
    exact all_fold S (D ++ [l]) _ (step_hits h (ha l List.mem_cons_self)) fun k hk => ha k (List.mem_cons_of_mem _ hk)
def upOf (S : List Lot) (k : Nat) : List Lot := (S.take k).foldl step [[]]
theorem few_by {S : List Lot} (hA : ∀ l ∈ S, Asc l) (h : ((List.range (S.length + 1)).all fun k => decide ((upOf S k).length ≤ 400) && (upOf S k).all fun t => decide (t.length ≤ 10000)) = true) : Few S := by
  intro D R e F hF
  have hk : D.length ≤ S.length := by rw [e, List.length_append]; omega
  have hD : D = S.take D.length := by rw [e]; simp
  have a : All (Hits D) (upOf S D.length) := by
    have := all_fold (S.take D.length) [] [[]] all_nil fun l hl => hA l (List.mem_of_mem_take hl)
    rw [← hD] at this
    unfold upOf
    rw [← hD]
    simpa using this
  have q := List.all_eq_true.mp h D.length (List.mem_range.mpr (by omega))
  have ⟨q1, q2⟩ := (Bool.and_eq_true _ _).mp q
  have q1 := of_decide_eq_true q1
  have hm : ∀ t ∈ F, t ∈ upOf S D.length := fun t ht => (a.mem t).mpr ((hF.mem t).mp ht)
  refine ⟨Nat.le_trans (nodup_len hF.nodup hm) q1, fun t ht => ?_⟩
  exact of_decide_eq_true (List.all_eq_true.mp q2 t (hm t ht))
theorem pairs8_few : Few pairs8 := few_by (fun l hl => (pairs8_lt l hl).1) (by decide +kernel)
theorem pairs8_good : Good 18 pairs8 := ⟨by decide, by decide, by decide, pairs8_lt, by rw [pairs8_least]; exact pairs8_few⟩
theorem pairs8_len : (crossL pairs8).length = 256 := by
  rw [crossL, List.length_mergeSort, pairs8_least]
  decide +kernel
theorem pairs9_len : (step (pairs8.foldl step [[]]) [16, 17]).length = 512 := by decide +kernel
theorem pairs8_up : (pairs8.foldl step [[]]).length = 256 := by decide +kernel
theorem pairs_g0 : G0 18 pairsL := ⟨by decide, by decide, by decide, pairs_lt⟩
theorem pairs_apart : apN (leastL pairsL) = 9 := by
  rw [pairs_least]
  decide +kernel
theorem turn14x (n : Nat) (L0 : D) (F : List Lot) (lot : Lot) (hF : F.length ≤ 1000) (h : ∀ l ∈ F, l.length ≤ 10000 ∧ Asc l) (hl : lot.length ≤ 40) (hs : 400 < (step F lot).length) :
    evSs (Φn (n + 2)) [] lp14 [.val L0, .own (F.map tD), .val (tD lot), .no] = .ex 147 (.int 400) := by
  refine w_asg (w_call2 rfl (w_own rfl) (w_val rfl) rfl rfl (crossedby_eq n F lot hF h hl) rfl) rfl ?_
  refine x_then (t_cmp (w_b1 (d := .list ((step F lot).map tD)) (r := .dt (.int ((step F lot).length : Int))) (w_own rfl) rfl ?_) w_glI rfl rfl ((cmp_gt _ _).trans (by rw [decide_eq_true (by omega)]))) (x_rse w_glI rfl)
  show (some ((step F lot).map tD).length).map (fun n : Nat => R.dt (PyData.int (n : Int))) = _
  rw [List.length_map]; rfl
theorem loop14x (n : Nat) (L0 : D) (lot : Lot) (hlo : lot.length ≤ 40) : ∀ (S D F : List Lot) (x : Sl), All (Hits D) F → (∀ l ∈ S, Asc l ∧ l.length ≤ 40) → Few (D ++ S) → 400 < (step (S.foldl step F) lot).length →
    forLoop tg14.put (evSs (Φn (n + 2)) [] lp14) ((S ++ [lot]).map tD) [.val L0, .own (F.map tD), x, .no] = .ex 147 (.int 400)
  | [], D, F, x, hF, _, hb, hs => by
    have ⟨b1, b2⟩ := hb D [] rfl F hF
    have t := turn14x n L0 F lot (by omega) (fun l hx => ⟨b2 l hx, ((hF.mem l).mp hx).1⟩) hlo hs
    rw [List.nil_append, List.map_cons, forLoop]
    show (match some ([.val L0, .own (F.map tD), .val (tD lot), .no] : Fr) with | none => SO.no | some ρ1 => match evSs (Φn (n + 2)) [] lp14 ρ1 with | .nx ρ2 => forLoop tg14.put (evSs (Φn (n + 2)) [] lp14) [] ρ2 | .ct ρ2 => forLoop tg14.put (evSs (Φn (n + 2)) [] lp14) [] ρ2 | .bk ρ2 => .nx ρ2 | o => o) = _
    simp only [t]
  | l :: S, D, F, x, hF, hl, hb, hs => by
    have ⟨a1, a2⟩ := hl l List.mem_cons_self
    have e : D ++ l :: S = (D ++ [l]) ++ S := by simp
    have hF' : All (Hits (D ++ [l])) (step F l) := step_hits hF a1
    have ⟨b1, b2⟩ := hb D (l :: S) rfl F hF
    have ⟨c1, _⟩ := hb (D ++ [l]) S e _ hF'
    have t := turn14 n L0 F l (by omega) (fun l hx => ⟨b2 l hx, ((hF.mem l).mp hx).1⟩) a2 c1
    rw [e] at hb
    have q := loop14x n L0 lot hlo S (D ++ [l]) (step F l) (.val (tD l)) hF' (fun l hx => hl l (List.mem_cons_of_mem _ hx)) hb hs
    rw [List.cons_append, List.map_cons, forLoop]
    show (match some ([.val L0, .own (F.map tD), .val (tD l), .no] : Fr) with | none => SO.no | some ρ1 => match evSs (Φn (n + 2)) [] lp14 ρ1 with | .nx ρ2 => forLoop tg14.put (evSs (Φn (n + 2)) [] lp14) ((S ++ [lot]).map tD) ρ2 | .ct ρ2 => forLoop tg14.put (evSs (Φn (n + 2)) [] lp14) ((S ++ [lot]).map tD) ρ2 | .bk ρ2 => .nx ρ2 | o => o) = _
    simp only [t]
    exact q
theorem pairs_len40 : ∀ l ∈ pairsL, l.length ≤ 40 := by decide +kernel
theorem pairs_cof (n : Nat) : callN Pm (n + 4) 14 [.val (.list (pairsL.map tD))] = .ex 147 (.int 400) := by
  rw [callF (show Pm 14 = some f14 from rfl)]
  have e := loop14x (n + 1) (.list (pairsL.map tD)) [16, 17] (by decide) pairs8 [] [[]] .no all_nil (fun l hl => ⟨(pairs8_lt l hl).1, pairs_len40 l (pairs8_sub.subset hl)⟩) (by simpa using pairs8_few) (by rw [pairs9_len]; decide)
  refine x_run rfl rfl (w_asg (w_lst (ds := [tD []]) (w_evs (w_tup w_evs_nil (sl_ok (show 0 ≤ 100000 by decide))) rfl w_evs_nil) (sl_ok (show 1 ≤ 100000 by decide))) rfl (x_for rfl (w_slen (ds := (leastL pairsL).map tD) (w_call1 rfl (w_val rfl) rfl (leastof_eq n pairsL (by decide) fun l hl => by have := pairs_len40 l hl; omega) rfl) rfl rfl) ?_))
  rw [pairs_least]
  exact e
theorem pairs_cr (n : Nat) : callN Pm (n + 6) 16 [tv pairsL, iv 18] = .ex 147 (.int 400) := by
  rw [callF (show Pm 16 = some f16 from rfl)]
  exact x_run rfl rfl (w_exp (w_call2 rfl (w_val rfl) (w_val rfl) rfl rfl (checklots_eq n pairsL 18 (by decide) (by decide) (by decide) fun l hx => ⟨pairs_lt l hx, by have := pairs_len40 l hx; omega⟩) rfl) (x_ret (x_b1 (x_call1 rfl (w_b1 (w_val rfl) rfl rfl) rfl (pairs_cof (n + 1))))))
/-! seventeen lots of one part -/
def singles : List Lot := (List.range 17).map fun (i : Nat) => [(i : Int)]
def s17 : Lot := (List.range 17).map fun (i : Nat) => (i : Int)
theorem singles_lt : ∀ l ∈ singles, Lt 20 l := by
  unfold Lt Asc
  decide +kernel
theorem singles_ord : Ord singles := by
  unfold Cr.Ord
  decide +kernel
theorem singles_least : leastL singles = singles := apart_least (fun l hl => (singles_lt l hl).1) singles_ord (by decide +kernel)
theorem singles_few : Few singles := few_by (fun l hl => (singles_lt l hl).1) (by decide +kernel)
theorem singles_good : Good 20 singles := ⟨by decide, by decide, by decide, singles_lt, by rw [singles_least]; exact singles_few⟩
theorem singles_ap (n : Nat) : callN Pm (n + 6) 20 [tv singles, iv 20] = .ex 147 (.int 16) := by
  rw [callF (show Pm 20 = some f20 from rfl)]
  have hl : ∀ l ∈ singles, l.length ≤ 40 := by decide +kernel
  refine x_run rfl rfl (w_exp (w_call2 rfl (w_val rfl) (w_val rfl) rfl rfl (checklots_eq n singles 20 (by decide) (by decide) (by decide) fun l hx => ⟨singles_lt l hx, by have := hl l hx; omega⟩) rfl) (w_asg (w_call1 rfl (w_b1 (w_val rfl) rfl rfl) rfl (leastof_eq (n + 2) singles (by decide) fun l hx => by have := hl l hx; omega) rfl) rfl ?_))
  refine x_then (t_cmp (w_b1 (r := .dt (.int ((leastL singles).length : Int))) (w_own rfl) rfl ?_) w_int rfl rfl ((cmp_gt _ _).trans (by rw [singles_least]; decide))) (x_rse w_int rfl)
  show (some ((leastL singles).map tD).length).map (fun n : Nat => R.dt (PyData.int (n : Int))) = _
  rw [List.length_map]; rfl
theorem singles_due : crossL singles = [s17] := by
  rw [crossL, singles_least]
  decide +kernel
/-! no lot; the empty lot -/
theorem nil_good : Good 3 [] := good_low (m := 3) (by decide) (by decide) (by decide) (by decide) (by decide) (fun l h => absurd h List.not_mem_nil)
theorem emp_good : Good 3 [[]] := good_low (m := 3) (by decide) (by decide) (by decide) (by decide) (by decide) (by unfold Lt Asc; decide +kernel)
theorem nil_due : crossL [] = [[]] := by decide +kernel
theorem emp_due : crossL [[]] = [] := by decide +kernel
end K11
end
section
set_option Elab.async false
set_option linter.all false
set_option autoImplicit false
set_option maxRecDepth 100000
set_option maxHeartbeats 4000000
namespace K11
open PySem Py Cr
def t36 (k : Nat) : Ss := dropS k b36
def lp36 : Ss := match t36 8 with | .cons (.for_ _ _ b _) _ => b | _ => .nil
def tg36 : Tg := match t36 8 with | .cons (.for_ t _ _ _) _ => t | _ => .nm 0 "" ⟨0, 0, 0, 0⟩
abbrev sv (ns : List Int) : Sl := .val (.list (ns.map PyData.int))
abbrev fr36 (ns : List Int) (c p q a b l : Sl) : Fr := [sv ns, c, p, q, a, b, .no, .no, l]
def J36 (ns : List Int) (c : Sl) (p : Nat) (j : Nat) (ρ : Fr) : Prop := ∃ pot x, ρ = fr36 ns c (iv p) (.own pot) (tv pairsL) (tv singles) x ∧ PotOk (49 * j) pot
theorem turn36 (n : Nat) (ns : List Int) (c : Sl) (p : Nat) (hp : p < 10) (x3 : Sl) : ∃ pot', evSs (Φn (n + 10)) [] lp36 (fr36 ns c (iv p) x3 (tv pairsL) (tv singles) .no) = .nx (fr36 ns c (iv p) (.own pot') (tv pairsL) (tv singles) .no) := by
  obtain ⟨pot, e0, h0⟩ := pot_eq (n + 9) ns p hp
  obtain ⟨ps, ρ', e, p1, p2, pot', x, rfl, p3⟩ := w_cst (Φ := Φn (n + 10)) (ρ0 := fr36 ns c (iv p) (.own pot) (tv pairsL) (tv singles) .no) (ρ := fr36 ns c (iv p) (.own pot) (tv pairsL) (tv singles) .no)
    (e := match lp36 with | .cons _ (.cons (.iff (.nt (.b1 _ _ (.comp e _ _ _ _ _ _) _) _) _ _ _) _) => e | _ => .non 0 ⟨0, 0, 0, 0⟩) (t := match lp36 with | .cons _ (.cons (.iff (.nt (.b1 _ _ (.comp _ t _ _ _ _ _) _) _) _ _ _) _) => t | _ => .nm 0 "" ⟨0, 0, 0, 0⟩) (src := match lp36 with | .cons _ (.cons (.iff (.nt (.b1 _ _ (.comp _ _ s _ _ _ _) _) _) _ _ _) _) => s | _ => .e (.non 0 ⟨0, 0, 0, 0⟩)) (sc := sc43) (own := [("lap", 8)]) (p := match lp36 with | .cons _ (.cons (.iff (.nt (.b1 _ _ (.comp _ _ _ _ _ _ p) _) _) _ _ _) _) => p | _ => ⟨0, 0, 0, 0⟩) (ds := (List.range 6).map fun (i : Nat) => PyData.int i)
    (J36 ns c p) (fun _ y => y = .bool true) (w_rngN (j := 6) w_int rfl (by decide)) rfl (by rw [List.length_map, List.length_range]; exact sl_ok (show 6 ≤ 100000 by decide)) ⟨pot, .no, rfl, h0⟩ (fun j d ρ hj hd ⟨po, x, e, hp⟩ => by
      subst e
      rw [List.length_map, List.length_range] at hj
      obtain ⟨po', er, h1⟩ := right_eq n (49 * j) hp (by omega)
      refine ⟨_, fr36 ns c (iv p) (.own po') (tv pairsL) (tv singles) (.val d), .bool true, rfl, ?_, rfl, po', _, rfl, pot_mono h1 (by omega)⟩
      exact w_esc (w_callO1 (ds := po) (r := .dt (.bool true)) rfl (w_own rfl) rfl ((phi_call _ _ _).trans er) rfl) rfl)
  have hall : b1M .all (.list (ps.map (·.2))) = some (.dt (.bool true)) := by
    rw [show ps.map (·.2) = ps.map fun _ => PyData.bool true from List.map_congr_left fun q hq => p2 q hq, b1_all (fun _ => true) ps]
    congr 3
    exact List.all_eq_true.mpr fun _ _ => rfl
  exact ⟨pot', w_asg (w_call2 rfl (w_val rfl) (w_val rfl) rfl rfl ((phi_call _ _ _).trans e0) rfl) rfl (w_skip (t_nt (k := true) (t_b1 (w_b1 e rfl hall) rfl)) w_end)⟩
theorem loop36 (n : Nat) (ns : List Int) (c : Sl) : ∀ (is : List Nat) (x2 x3 : Sl), (∀ i ∈ is, i < 10) → ∃ y2 y3, forLoop tg36.put (evSs (Φn (n + 10)) [] lp36) (is.map fun (i : Nat) => PyData.int i) (fr36 ns c x2 x3 (tv pairsL) (tv singles) .no) = .nx (fr36 ns c y2 y3 (tv pairsL) (tv singles) .no)
  | [], x2, x3, _ => ⟨x2, x3, rfl⟩
  | i :: is, x2, x3, h => by
    obtain ⟨pot', t⟩ := turn36 n ns c i (h i List.mem_cons_self) x3
    obtain ⟨y2, y3, e⟩ := loop36 n ns c is (iv i) (.own pot') fun j hj => h j (List.mem_cons_of_mem _ hj)
    refine ⟨y2, y3, ?_⟩
    rw [List.map_cons, forLoop]
    show (match some (fr36 ns c (iv i) x3 (tv pairsL) (tv singles) .no : Fr) with | none => SO.no | some ρ1 => match evSs (Φn (n + 10)) [] lp36 ρ1 with | .nx ρ2 => forLoop tg36.put (evSs (Φn (n + 10)) [] lp36) (is.map fun (i : Nat) => PyData.int i) ρ2 | .ct ρ2 => forLoop tg36.put (evSs (Φn (n + 10)) [] lp36) (is.map fun (i : Nat) => PyData.int i) ρ2 | .bk ρ2 => .nx ρ2 | o => o) = _
    simp only [t]
    exact e
theorem m8 (ns : List Int) (c : Sl) : ∃ ρ', evSs (Φn 20) [] (t36 8) (fr36 ns c .no .no (tv pairsL) (tv singles) .no) = .rt (.dt (.bool true)) ρ' := by
  obtain ⟨k, k1, k4, ek⟩ := places_eq 19 ns
  obtain ⟨y2, y3, e⟩ := loop36 10 ns c (List.range k) .no .no fun i hi => by have := List.mem_range.mp hi; omega
  exact ⟨_, w_for rfl (w_slen (w_call2 rfl (w_val rfl) w_int rfl rfl ((phi_call _ _ _).trans ek) rfl) rfl rfl) e (w_ret w_bl)⟩
theorem cmp_isnotN : cmpop .IsNot .none .none = some false := rfl
theorem m7 (ns : List Int) (c : Sl) : ∃ ρ', evSs (Φn 20) [] (t36 7) (fr36 ns c .no .no (tv pairsL) (tv singles) .no) = .rt (.dt (.bool true)) ρ' := by
  obtain ⟨ρ', e⟩ := m8 ns c
  have c1 := crossing_eq 14 nil_good
  have c2 := crossing_eq 14 emp_good
  have c3 := fewest_none 13 emp_good emp_due
  rw [nil_due] at c1
  rw [emp_due] at c2
  have h1 : cmpop .NotEq (.tuple [tD []]) (.tuple [tD []]) = some false := cmp_neTs [[]]
  have h2 : cmpop .NotEq (.tuple []) (.tuple []) = some false := cmp_neTs []
  have l1 : (1 : Nat) ≤ sizeLine := sl_ok (show 1 ≤ 100000 by decide)
  have l0 : (0 : Nat) ≤ sizeLine := sl_ok (show 0 ≤ 100000 by decide)
  refine ⟨ρ', w_skip (t_bo (t_cmp (w_call2 rfl (w_tup w_evs_nil l0) w_int rfl rfl ((phi_call _ _ _).trans c1) rfl) (w_tup (ds := [tD []]) (w_evs (w_tup w_evs_nil l0) rfl w_evs_nil) l1) rfl rfl h1)
    (tb_go (t_cmp (w_call2 rfl (w_tup (ds := [tD []]) (w_evs (w_tup w_evs_nil l0) rfl w_evs_nil) l1) w_int rfl rfl ((phi_call _ _ _).trans c2) rfl) (w_tup w_evs_nil l0) rfl rfl h2)
    (tb_go (t_cmp (w_call2 rfl (w_tup (ds := [tD []]) (w_evs (w_tup w_evs_nil l0) rfl w_evs_nil) l1) w_int rfl rfl ((phi_call _ _ _).trans c3) rfl) w_none rfl rfl cmp_isnotN) tb_nil))) e⟩
abbrev ex147 (i : Int) : Sl := .val (exD 147 (.int i))
theorem m5 (ns : List Int) (c : Sl) : ∃ ρ', evSs (Φn 20) [] (t36 5) (fr36 ns c .no .no (tv pairsL) (tv singles) .no) = .rt (.dt (.bool true)) ρ' := by
  obtain ⟨ρ', e⟩ := m7 ns (ex147 16)
  have c1 := crossing_eq 14 singles_good
  rw [singles_due] at c1
  have h1 : cmpop .NotEq (.tuple [tD s17]) (.tuple [tD s17]) = some false := cmp_neTs [s17]
  have l1 : (1 : Nat) ≤ sizeLine := sl_ok (show 1 ≤ 100000 by decide)
  have ht : trngM (.int 17) = some (.dt (tD s17)) := by
    show (if -(2 ^ 62) ≤ (17 : Int) ∧ (17 : Int) < 2 ^ 62 ∧ (17 : Int).toNat ≤ 2 ^ 24 then some (R.dt (.tuple ((List.range 17).map fun (i : Nat) => .int i))) else none) = _
    rw [if_pos (by decide)]
    unfold s17 tD
    rw [List.map_map]
    rfl
  refine ⟨ρ', w_asg (r := .dt (exD 147 (.int 16))) (w_idx (x := .dt (.tuple [exD 147 (.int 16), .none])) (r := .dt (exD 147 (.int 16))) (w_heardX (x_call2 rfl (w_val rfl) w_int rfl rfl ((phi_call _ _ _).trans (singles_ap 14))) (by decide)) w_int rfl rfl rfl) rfl ?_⟩
  exact w_skip (t_bo (t_nt (k := true) (t_isx (d := .int 16) (w_val rfl) rfl)) (tb_go (t_cmp (w_attr (d := .int 16) (w_val rfl) rfl (by decide)) w_int rfl rfl ((cmp_ne _ _).trans (by decide)))
    (tb_go (t_cmp (w_call2 rfl (w_val rfl) w_int rfl rfl ((phi_call _ _ _).trans c1) rfl) (w_tup (ds := [tD s17]) (w_evs (w_trng w_int rfl ht) rfl w_evs_nil) l1) rfl rfl h1) tb_nil))) e
def num (d : D) : Int := match d with | .int i => i | _ => 0
theorem m4 (ns : List Int) (c : Sl) : ∃ ρ', evSs (Φn 20) [] (t36 4) (fr36 ns c .no .no (tv pairsL) .no .no) = .rt (.dt (.bool true)) ρ' := by
  obtain ⟨ρ', e⟩ := m5 ns c
  refine ⟨ρ', w_asg (r := .dt (.tuple (singles.map tD))) (w_b1 (d := .list (singles.map tD)) (w_map (ds := (List.range 17).map fun (i : Nat) => PyData.int i) (fun d => tD [num d]) (w_rngN (j := 17) w_int rfl (by decide)) rfl rfl (by rw [List.length_map, List.length_range]; exact sl_ok (show 17 ≤ 100000 by decide)) fun d hd => ?_) rfl rfl) rfl e⟩
  obtain ⟨i, _, rfl⟩ := List.mem_map.mp hd
  exact ⟨_, rfl, w_esc (w_tup (ds := [.int (i : Int)]) (w_evs (w_val rfl) rfl w_evs_nil) (sl_ok (show 1 ≤ 100000 by decide))) rfl, rfl⟩
theorem m2 (ns : List Int) (c : Sl) : ∃ ρ', evSs (Φn 20) [] (t36 2) (fr36 ns c .no .no (tv pairsL) .no .no) = .rt (.dt (.bool true)) ρ' := by
  obtain ⟨ρ', e⟩ := m4 ns (ex147 400)
  refine ⟨ρ', w_asg (r := .dt (exD 147 (.int 400))) (w_idx (x := .dt (.tuple [exD 147 (.int 400), .none])) (r := .dt (exD 147 (.int 400))) (w_heardX (x_call2 rfl (w_val rfl) w_int rfl rfl ((phi_call _ _ _).trans (pairs_cr 14))) (by decide)) w_int rfl rfl rfl) rfl ?_⟩
  exact w_skip (t_bo (t_nt (k := true) (t_isx (d := .int 400) (w_val rfl) rfl)) (tb_go (t_cmp (w_attr (d := .int 400) (w_val rfl) rfl (by decide)) w_int rfl rfl ((cmp_ne _ _).trans (by decide))) tb_nil)) e
theorem m0 (ns : List Int) : ∃ ρ', evSs (Φn 20) [] b36 (fr36 ns .no .no .no .no .no .no) = .rt (.dt (.bool true)) ρ' := by
  obtain ⟨ρ', e⟩ := m2 ns .no
  have c1 := crossing_eq 14 pairs8_good
  have c2 := apart_eq0 14 pairs_g0 (by rw [pairs_least]; decide)
  rw [pairs_apart] at c2
  refine ⟨ρ', w_asg (r := .dt (.tuple (pairsL.map tD))) (w_b1 (d := .list (pairsL.map tD)) (w_map (ds := (List.range 9).map fun (i : Nat) => PyData.int i) (fun d => tD [2 * num d, 2 * num d + 1]) (w_rngN (j := 9) w_int rfl (by decide)) rfl rfl (by rw [List.length_map, List.length_range]; exact sl_ok (show 9 ≤ 100000 by decide)) fun d hd => ?_) rfl rfl) rfl ?_⟩
  · obtain ⟨i, hi, rfl⟩ := List.mem_map.mp hd
    have := List.mem_range.mp hi
    exact ⟨_, rfl, w_esc (w_tup (ds := [.int (2 * (i : Int)), .int (2 * (i : Int) + 1)]) (w_evs (w_bin w_int (w_val rfl) rfl rfl (bop_mul (by decide) (by decide) (by omega) (by omega))) rfl (w_evs (w_bin (w_bin w_int (w_val rfl) rfl rfl (bop_mul (by decide) (by decide) (by omega) (by omega))) w_int rfl rfl rfl) rfl w_evs_nil)) (sl_ok (show 2 ≤ 100000 by decide))) rfl, rfl⟩
  · exact w_skip (t_bo (t_cmp (w_b1 (w_call2 rfl (w_shi (r := .dt (.tuple (pairs8.map tD))) (w_val rfl) w_int rfl rfl rfl) w_int rfl rfl ((phi_call _ _ _).trans c1) rfl) rfl (len_Ts _)) w_int rfl rfl ((cmp_ne _ _).trans (by rw [pairs8_len]; decide)))
      (tb_go (t_cmp (w_call2 rfl (w_val rfl) w_int rfl rfl ((phi_call _ _ _).trans c2) rfl) w_int rfl rfl ((cmp_ne _ _).trans (by decide))) tb_nil)) e
theorem math (ns : List Int) (h1 : ns.length ≤ 63) (h2 : ∀ z ∈ ns, Builtin.Int.intBits z ≤ 1048576) : runFn (fxOf Pm (callN Pm 20)) f36 [.val (.list (ns.map PyData.int))] = .ok (.val (.bool true)) [] := by
  obtain ⟨ρ', e⟩ := m0 ns
  show runFn (Φn 20) f36 [sv ns] = _
  exact w_run rfl e rfl
end K11
end
section
set_option Elab.async false
set_option linter.all false
set_option maxRecDepth 100000
set_option maxHeartbeats 4000000
namespace K11
open PySem PySem.Spec PyProof.Rows L2 Py
theorem bd0 : Bd "is_integer" (top 1) p0 := fun _ _ _ _ _ _ us hl => match us, hl with | [_], _ => rfl
theorem bd1 : Bd "is_between" (top 2) p1 := fun _ _ _ _ _ _ us hl => match us, hl with | [_, _, _], _ => rfl
theorem bd2 : Bd "is_tuple" (top 3) p2 := fun _ _ _ _ _ _ us hl => match us, hl with | [_, _, _], _ => rfl
theorem bd3 : Bd "is_ascending" (top 4) p3 := fun _ _ _ _ _ _ us hl => match us, hl with | [_], _ => rfl
theorem bd4 : Bd "is_lot" (top 5) p4 := fun _ _ _ _ _ _ us hl => match us, hl with | [_, _], _ => rfl
theorem bd5 : Bd "meets" (top 6) p5 := fun _ _ _ _ _ _ us hl => match us, hl with | [_, _], _ => rfl
theorem bd6 : Bd "is_within" (top 7) p6 := fun _ _ _ _ _ _ us hl => match us, hl with | [_, _], _ => rfl
theorem bd7 : Bd "least_of" (top 8) p7 := fun _ _ _ _ _ _ us hl => match us, hl with | [_], _ => rfl
theorem bd8 : Bd "by_size" (top 9) p8 := fun _ _ _ _ _ _ us hl => match us, hl with | [_], _ => rfl
theorem bd9 : Bd "is_many" (top 19) p9 := fun _ _ _ _ _ _ us hl => match us, hl with | [_], _ => rfl
theorem bd10 : Bd "check_many" (top 20) p10 := fun _ _ _ _ _ _ us hl => match us, hl with | [_], _ => rfl
theorem bd11 : Bd "are_lots" (top 23) p11 := fun _ _ _ _ _ _ us hl => match us, hl with | [_, _], _ => rfl
theorem bd12 : Bd "check_lots" (top 24) p12 := fun _ _ _ _ _ _ us hl => match us, hl with | [_, _], _ => rfl
theorem bd13 : Bd "crossed_by" (top 25) p13 := fun _ _ _ _ _ _ us hl => match us, hl with | [_, _], _ => rfl
theorem bd14 : Bd "crossing_of" (top 26) p14 := fun _ _ _ _ _ _ us hl => match us, hl with | [_], _ => rfl
theorem bd15 : Bd "is_alone_in" (top 27) p15 := fun _ _ _ _ _ _ us hl => match us, hl with | [_, _, _], _ => rfl
theorem bd16 : Bd "crossing" (top 28) p16 := fun _ _ _ _ _ _ us hl => match us, hl with | [_, _], _ => rfl
theorem bd17 : Bd "does_cross" (top 29) p17 := fun _ _ _ _ _ _ us hl => match us, hl with | [_, _, _], _ => rfl
theorem bd18 : Bd "is_least_crossing" (top 30) p18 := fun _ _ _ _ _ _ us hl => match us, hl with | [_, _, _], _ => rfl
theorem bd19 : Bd "fewest_crossing" (top 31) p19 := fun _ _ _ _ _ _ us hl => match us, hl with | [_, _], _ => rfl
theorem bd20 : Bd "apart_lots" (top 32) p20 := fun _ _ _ _ _ _ us hl => match us, hl with | [_, _], _ => rfl
theorem bd21 : Bd "cut_short" (top 33) p21 := fun _ _ _ _ _ _ us hl => match us, hl with | [_, _, _], _ => rfl
theorem bd22 : Bd "_law_pot" (top 35) p22 := fun _ _ _ _ _ _ us hl => match us, hl with | [_, _], _ => rfl
theorem bd23 : Bd "_law_take" (top 36) p23 := fun _ _ _ _ _ _ us hl => match us, hl with | [_, _], _ => rfl
theorem bd24 : Bd "_law_of" (top 37) p24 := fun _ _ _ _ _ _ us hl => match us, hl with | [_, _], _ => rfl
theorem bd25 : Bd "_law_places" (top 38) p25 := fun _ _ _ _ _ _ us hl => match us, hl with | [_, _], _ => rfl
theorem bd26 : Bd "_law_lot" (top 40) p26 := fun _ _ _ _ _ _ us hl => match us, hl with | [_, _], _ => rfl
theorem bd27 : Bd "_law_lots" (top 41) p27 := fun _ _ _ _ _ _ us hl => match us, hl with | [_], _ => rfl
theorem bd28 : Bd "_law_in" (top 42) p28 := fun _ _ _ _ _ _ us hl => match us, hl with | [_, _], _ => rfl
theorem bd29 : Bd "_law_least" (top 43) p29 := fun _ _ _ _ _ _ us hl => match us, hl with | [_], _ => rfl
theorem bd30 : Bd "_law_meets" (top 44) p30 := fun _ _ _ _ _ _ us hl => match us, hl with | [_, _], _ => rfl
theorem bd31 : Bd "_law_apart" (top 45) p31 := fun _ _ _ _ _ _ us hl => match us, hl with | [_], _ => rfl
theorem bd32 : Bd "_law_power" (top 46) p32 := fun _ _ _ _ _ _ us hl => match us, hl with | [_], _ => rfl
theorem bd33 : Bd "_law_are_refused" (top 47) p33 := fun _ _ _ _ _ _ us hl => match us, hl with | [_, _, _], _ => rfl
theorem bd34 : Bd "_law_caught" (top 48) p34 := fun _ _ _ _ _ _ us hl => match us, hl with | [_, _, _], _ => rfl
theorem bd35 : Bd "_law_right" (top 49) p35 := fun _ _ _ _ _ _ us hl => match us, hl with | [_], _ => rfl
theorem bd36 : Bd "law" (top 50) p36 := fun _ _ _ _ _ _ us hl => match us, hl with | [_], _ => rfl
theorem all_mk {l : W.OpenLaw} {w : World} {K : W.Frag} {h : Heap} {mg : Str → Option Value} {fa g0 g1 g2 g3 g4 g5 g6 g7 g8 g9 g10 g11 g12 g13 g14 g15 g16 g17 g18 g19 g20 g21 g22 g23 g24 g25 g26 g27 g28 g29 g30 g31 g32 g33 g34 g35 g36 cc14 cc27 cc33 cc34 cc35 cc36 pp14 pp27 pp33 pp34 pp35 pp36 : Addr} {v0 v1 v2 v3 v4 v5 v6 v7 v8 v9 v10 v11 v12 v13 v15 v16 v17 v18 v19 v20 v21 v22 v23 v24 v25 v26 v28 v29 v30 v31 v32  : Value} {t0 t1 : Tok} {ec14 : Value} {dd14 : Option Addr} {vs14 : Array Value} {sl14 : Array (Option Value)} {ec27 : Value} {dd27 : Option Addr} {vs27 : Array Value} {sl27 : Array (Option Value)} {ec33 : Value} {dd33 : Option Addr} {vs33 : Array Value} {sl33 : Array (Option Value)} {ec34 : Value} {dd34 : Option Addr} {vs34 : Array Value} {sl34 : Array (Option Value)} {ec35 : Value} {dd35 : Option Addr} {vs35 : Array Value} {sl35 : Array (Option Value)} {ec36 : Value} {dd36 : Option Addr} {vs36 : Array Value} {sl36 : Array (Option Value)} {gh fI : Addr} {vh : Value} (X : K.In h) (G : h.Ns mainGlobals mg) (hfa : mg "law" = some (.ref fa))
    (a0 : At1 K "is_integer" (top 1) g0 v0)
    (a1 : At1 K "is_between" (top 2) g1 v1)
    (a2 : At1 K "is_tuple" (top 3) g2 v2)
    (a3 : At1 K "is_ascending" (top 4) g3 v3)
    (a4 : At1 K "is_lot" (top 5) g4 v4)
    (a5 : At1 K "meets" (top 6) g5 v5)
    (a6 : At1 K "is_within" (top 7) g6 v6)
    (a7 : At1 K "least_of" (top 8) g7 v7)
    (a8 : At1 K "by_size" (top 9) g8 v8)
    (a9 : At1 K "is_many" (top 19) g9 v9)
    (a10 : At1 K "check_many" (top 20) g10 v10)
    (a11 : At1 K "are_lots" (top 23) g11 v11)
    (a12 : At1 K "check_lots" (top 24) g12 v12)
    (a13 : At1 K "crossed_by" (top 25) g13 v13)
    (a14 : At1 K "crossing_of" (top 26) g14 (.ref cc14))
    (a15 : At1 K "is_alone_in" (top 27) g15 v15)
    (a16 : At1 K "crossing" (top 28) g16 v16)
    (a17 : At1 K "does_cross" (top 29) g17 v17)
    (a18 : At1 K "is_least_crossing" (top 30) g18 v18)
    (a19 : At1 K "fewest_crossing" (top 31) g19 v19)
    (a20 : At1 K "apart_lots" (top 32) g20 v20)
    (a21 : At1 K "cut_short" (top 33) g21 v21)
    (a22 : At1 K "_law_pot" (top 35) g22 v22)
    (a23 : At1 K "_law_take" (top 36) g23 v23)
    (a24 : At1 K "_law_of" (top 37) g24 v24)
    (a25 : At1 K "_law_places" (top 38) g25 v25)
    (a26 : At1 K "_law_lot" (top 40) g26 v26)
    (a27 : At1 K "_law_lots" (top 41) g27 (.ref cc27))
    (a28 : At1 K "_law_in" (top 42) g28 v28)
    (a29 : At1 K "_law_least" (top 43) g29 v29)
    (a30 : At1 K "_law_meets" (top 44) g30 v30)
    (a31 : At1 K "_law_apart" (top 45) g31 v31)
    (a32 : At1 K "_law_power" (top 46) g32 v32)
    (a33 : At1 K "_law_are_refused" (top 47) g33 (.ref cc33))
    (a34 : At1 K "_law_caught" (top 48) g34 (.ref cc34))
    (a35 : At1 K "_law_right" (top 49) g35 (.ref cc35))
    (a36 : At1 K "law" (top 50) g36 (.ref cc36))
    (z0 : W.nsIn K mainGlobals "len" = some none)
    (z1 : W.nsIn K mainGlobals "all" = some none)
    (z2 : W.nsIn K mainGlobals "any" = some none)
    (z3 : W.nsIn K mainGlobals "sorted" = some none)
    (z4 : W.nsIn K mainGlobals "tuple" = some none)
    (z5 : W.nsIn K mainGlobals "list" = some none)
    (z6 : W.nsIn K mainGlobals "max" = some none)
    (z7 : W.nsIn K mainGlobals "min" = some none)
    (z8 : W.nsIn K mainGlobals "sum" = some none)
    (z9 : W.nsIn K mainGlobals "abs" = some none)
    (z10 : W.nsIn K mainGlobals "int" = some none)
    (z11 : W.nsIn K mainGlobals "bool" = some none)
    (z12 : W.nsIn K mainGlobals "isinstance" = some none)
    (z13 : W.nsIn K mainGlobals "set" = some none)
    (z14 : W.nsIn K mainGlobals "range" = some none)
    (z15 : W.nsIn K mainGlobals "zip" = some none)
    (z16 : W.nsIn K mainGlobals "repr" = some none)
    (z17 : W.nsIn K mainGlobals "enumerate" = some none)
    (i0 : W.nsIn K mainGlobals "MOST_PARTS" = some (some (.int 40 t0)))
    (i1 : W.nsIn K mainGlobals "MOST_LOTS" = some (some (.int 400 t1)))
    (_q14 : K.lookup cc14 = some ⟨ec14, dd14, .fields vs14, sl14⟩) (_r14 : vs14[11]? = some (.ref pp14))
    (d14 : W.codeHdIn K cc14 pp14 = true) (e14 : K.lookup pp14 = none) (s14 : h.get? pp14 = some { cls := .none, data := .fields #[] })
    (_q27 : K.lookup cc27 = some ⟨ec27, dd27, .fields vs27, sl27⟩) (_r27 : vs27[11]? = some (.ref pp27))
    (d27 : W.codeHdIn K cc27 pp27 = true) (e27 : K.lookup pp27 = none) (s27 : h.get? pp27 = some { cls := .none, data := .fields #[] })
    (_q33 : K.lookup cc33 = some ⟨ec33, dd33, .fields vs33, sl33⟩) (_r33 : vs33[11]? = some (.ref pp33))
    (d33 : W.codeHdIn K cc33 pp33 = true) (e33 : K.lookup pp33 = none) (s33 : h.get? pp33 = some { cls := .none, data := .fields #[] })
    (_q34 : K.lookup cc34 = some ⟨ec34, dd34, .fields vs34, sl34⟩) (_r34 : vs34[11]? = some (.ref pp34))
    (d34 : W.codeHdIn K cc34 pp34 = true) (e34 : K.lookup pp34 = none) (s34 : h.get? pp34 = some { cls := .none, data := .fields #[] })
    (_q35 : K.lookup cc35 = some ⟨ec35, dd35, .fields vs35, sl35⟩) (_r35 : vs35[11]? = some (.ref pp35))
    (d35 : W.codeHdIn K cc35 pp35 = true) (e35 : K.lookup pp35 = none) (s35 : h.get? pp35 = some { cls := .none, data := .fields #[] })
    (_q36 : K.lookup cc36 = some ⟨ec36, dd36, .fields vs36, sl36⟩) (_r36 : vs36[11]? = some (.ref pp36))
    (d36 : W.codeHdIn K cc36 pp36 = true) (e36 : K.lookup pp36 = none) (s36 : h.get? pp36 = some { cls := .none, data := .fields #[] })
    (u14_27 : pp14 ≠ pp27)
    (u14_33 : pp14 ≠ pp33)
    (u14_34 : pp14 ≠ pp34)
    (u14_35 : pp14 ≠ pp35)
    (u14_36 : pp14 ≠ pp36)
    (u27_14 : pp27 ≠ pp14)
    (u27_33 : pp27 ≠ pp33)
    (u27_34 : pp27 ≠ pp34)
    (u27_35 : pp27 ≠ pp35)
    (u27_36 : pp27 ≠ pp36)
    (u33_14 : pp33 ≠ pp14)
    (u33_27 : pp33 ≠ pp27)
    (u33_34 : pp33 ≠ pp34)
    (u33_35 : pp33 ≠ pp35)
    (u33_36 : pp33 ≠ pp36)
    (u34_14 : pp34 ≠ pp14)
    (u34_27 : pp34 ≠ pp27)
    (u34_33 : pp34 ≠ pp33)
    (u34_35 : pp34 ≠ pp35)
    (u34_36 : pp34 ≠ pp36)
    (u35_14 : pp35 ≠ pp14)
    (u35_27 : pp35 ≠ pp27)
    (u35_33 : pp35 ≠ pp33)
    (u35_34 : pp35 ≠ pp34)
    (u35_36 : pp35 ≠ pp36)
    (u36_14 : pp36 ≠ pp14)
    (u36_27 : pp36 ≠ pp27)
    (u36_33 : pp36 ≠ pp33)
    (u36_34 : pp36 ≠ pp34)
    (u36_35 : pp36 ≠ pp35)
    (ah : At1 K "_law_heard" (top 39) gh vh) (hfe : W.nsIn K mainGlobals "FailsError" = some (some (.ref 86)))
    (ini : InitK l.prog K 86 fI)
    (y0 : W.nsIn K mainGlobals "crossing" = some (some (.ref 199)))
    (y1 : W.nsIn K mainGlobals "fewest_crossing" = some (some (.ref 216)))
    (y2 : W.nsIn K mainGlobals "apart_lots" = some (some (.ref 221)))
    (x0 : ErrK K "BadMany" 111 86 fI)
    (x1 : ErrK K "BadLots" 123 86 fI)
    (x2 : ErrK K "TooMany" 147 86 fI)
    (x3 : ErrK K "BadLot" 99 86 fI)
    (x4 : ErrK K "BadNumber" 135 86 fI)
    (math : ∀ ns : List Int, ns.length ≤ 63 → (∀ z ∈ ns, Builtin.Int.intBits z ≤ 1048576) → runFn (fxOf Pm (callN Pm 20)) f36 [.val (.list (ns.map PyData.int))] = .ok (.val (.bool true)) []) : LawAtM l w K 63 "script" mg fa h := by
  have e := hfa.symm.trans (W.mg_of X G a36.ns)
  cases e
  obtain ⟨oc, od, an, osl, kV, doc, pm, ct, lk⟩ := a36.ex
  refine ⟨_, [(cc14, pp14), (cc27, pp27), (cc33, pp33), (cc34, pp34), (cc35, pp35), (cc36, pp36)], [(pp14, "crossing_of.<locals>.<lambda>"), (pp27, "_law_lots.<locals>.<lambda>"), (pp33, "_law_are_refused.<locals>.<lambda>"), (pp34, "_law_caught.<locals>.<lambda>"), (pp35, "_law_right.<locals>.<lambda>"), (pp36, "law.<locals>.<lambda>")], ?_, ?_, ?_, fun s u => .of_eq (bd36 kV doc pm an (.ref cc36) ct [u] rfl), ?_, fun base KX GX hT => ?_⟩
  · exact List.forall_mem_cons.mpr ⟨s14, List.forall_mem_cons.mpr ⟨s27, List.forall_mem_cons.mpr ⟨s33, List.forall_mem_cons.mpr ⟨s34, List.forall_mem_cons.mpr ⟨s35, List.forall_mem_cons.mpr ⟨s36, fun _ h => nomatch h⟩⟩⟩⟩⟩⟩
  · exact List.forall_mem_cons.mpr ⟨e14, List.forall_mem_cons.mpr ⟨e27, List.forall_mem_cons.mpr ⟨e33, List.forall_mem_cons.mpr ⟨e34, List.forall_mem_cons.mpr ⟨e35, List.forall_mem_cons.mpr ⟨e36, fun _ h => nomatch h⟩⟩⟩⟩⟩⟩
  · exact List.forall_mem_cons.mpr ⟨W.codeHd_of_K X d14, List.forall_mem_cons.mpr ⟨W.codeHd_of_K X d27, List.forall_mem_cons.mpr ⟨W.codeHd_of_K X d33, List.forall_mem_cons.mpr ⟨W.codeHd_of_K X d34, List.forall_mem_cons.mpr ⟨W.codeHd_of_K X d35, List.forall_mem_cons.mpr ⟨W.codeHd_of_K X d36, fun _ h => nomatch h⟩⟩⟩⟩⟩⟩
  · exact List.forall_mem_cons.mpr ⟨⟨_, .head _, rfl⟩, List.forall_mem_cons.mpr ⟨⟨_, .tail _ (.head _), rfl⟩, List.forall_mem_cons.mpr ⟨⟨_, .tail _ (.tail _ (.head _)), rfl⟩, List.forall_mem_cons.mpr ⟨⟨_, .tail _ (.tail _ (.tail _ (.head _))), rfl⟩, List.forall_mem_cons.mpr ⟨⟨_, .tail _ (.tail _ (.tail _ (.tail _ (.head _)))), rfl⟩, List.forall_mem_cons.mpr ⟨⟨_, .tail _ (.tail _ (.tail _ (.tail _ (.tail _ (.head _))))), rfl⟩, fun _ h => nomatch h⟩⟩⟩⟩⟩⟩
  · have D : ∀ e ∈ fns, DD [(pp14, "crossing_of.<locals>.<lambda>"), (pp27, "_law_lots.<locals>.<lambda>"), (pp33, "_law_are_refused.<locals>.<lambda>"), (pp34, "_law_caught.<locals>.<lambda>"), (pp35, "_law_right.<locals>.<lambda>"), (pp36, "law.<locals>.<lambda>")] K mg base Pm blt fns gis e :=
      dd_cons (fn := f0) rfl (def_ok X G a0 fs0 tx0 ok0 bd0 rfl rfl (fun z => nomatch z)) <|
      dd_cons (fn := f1) rfl (def_ok X G a1 fs1 tx1 ok1 bd1 rfl rfl (fun z => nomatch z)) <|
      dd_cons (fn := f2) rfl (def_ok X G a2 fs2 tx2 ok2 bd2 rfl rfl (fun z => nomatch z)) <|
      dd_cons (fn := f3) rfl (def_ok X G a3 fs3 tx3 ok3 bd3 rfl rfl (fun z => nomatch z)) <|
      dd_cons (fn := f4) rfl (def_ok X G a4 fs4 tx4 ok4 bd4 rfl rfl (fun z => nomatch z)) <|
      dd_cons (fn := f5) rfl (def_ok X G a5 fs5 tx5 ok5 bd5 rfl rfl (fun z => nomatch z)) <|
      dd_cons (fn := f6) rfl (def_ok X G a6 fs6 tx6 ok6 bd6 rfl rfl (fun z => nomatch z)) <|
      dd_cons (fn := f7) rfl (def_ok X G a7 fs7 tx7 ok7 bd7 rfl rfl (fun z => nomatch z)) <|
      dd_cons (fn := f8) rfl (def_ok X G a8 fs8 tx8 ok8 bd8 rfl rfl (fun z => nomatch z)) <|
      dd_cons (fn := f9) rfl (def_ok X G a9 fs9 tx9 ok9 bd9 rfl rfl (fun z => nomatch z)) <|
      dd_cons (fn := f10) rfl (def_ok X G a10 fs10 tx10 ok10 bd10 rfl rfl (fun z => nomatch z)) <|
      dd_cons (fn := f11) rfl (def_ok X G a11 fs11 tx11 ok11 bd11 rfl rfl (fun z => nomatch z)) <|
      dd_cons (fn := f12) rfl (def_ok X G a12 fs12 tx12 ok12 bd12 rfl rfl (fun z => nomatch z)) <|
      dd_cons (fn := f13) rfl (def_ok X G a13 fs13 tx13 ok13 bd13 rfl rfl (fun z => nomatch z)) <|
      dd_cons (fn := f14) rfl (def_ok X G a14 fs14 tx14 ok14 bd14 rfl rfl (fun _ => ⟨cc14, pp14, hT (cc14, pp14) (.head _), rfl, .head _, List.forall_mem_cons.mpr ⟨fun _ => rfl, List.forall_mem_cons.mpr ⟨fun z => absurd z u27_14, List.forall_mem_cons.mpr ⟨fun z => absurd z u33_14, List.forall_mem_cons.mpr ⟨fun z => absurd z u34_14, List.forall_mem_cons.mpr ⟨fun z => absurd z u35_14, List.forall_mem_cons.mpr ⟨fun z => absurd z u36_14, fun _ h => nomatch h⟩⟩⟩⟩⟩⟩⟩)) <|
      dd_cons (fn := f15) rfl (def_ok X G a15 fs15 tx15 ok15 bd15 rfl rfl (fun z => nomatch z)) <|
      dd_cons (fn := f16) rfl (def_ok X G a16 fs16 tx16 ok16 bd16 rfl rfl (fun z => nomatch z)) <|
      dd_cons (fn := f17) rfl (def_ok X G a17 fs17 tx17 ok17 bd17 rfl rfl (fun z => nomatch z)) <|
      dd_cons (fn := f18) rfl (def_ok X G a18 fs18 tx18 ok18 bd18 rfl rfl (fun z => nomatch z)) <|
      dd_cons (fn := f19) rfl (def_ok X G a19 fs19 tx19 ok19 bd19 rfl rfl (fun z => nomatch z)) <|
      dd_cons (fn := f20) rfl (def_ok X G a20 fs20 tx20 ok20 bd20 rfl rfl (fun z => nomatch z)) <|
      dd_cons (fn := f21) rfl (def_ok X G a21 fs21 tx21 ok21 bd21 rfl rfl (fun z => nomatch z)) <|
      dd_cons (fn := f22) rfl (def_ok X G a22 fs22 tx22 ok22 bd22 rfl rfl (fun z => nomatch z)) <|
      dd_cons (fn := f23) rfl (def_ok X G a23 fs23 tx23 ok23 bd23 rfl rfl (fun z => nomatch z)) <|
      dd_cons (fn := f24) rfl (def_ok X G a24 fs24 tx24 ok24 bd24 rfl rfl (fun z => nomatch z)) <|
      dd_cons (fn := f25) rfl (def_ok X G a25 fs25 tx25 ok25 bd25 rfl rfl (fun z => nomatch z)) <|
      dd_cons (fn := f26) rfl (def_ok X G a26 fs26 tx26 ok26 bd26 rfl rfl (fun z => nomatch z)) <|
      dd_cons (fn := f27) rfl (def_ok X G a27 fs27 tx27 ok27 bd27 rfl rfl (fun _ => ⟨cc27, pp27, hT (cc27, pp27) (.tail _ (.head _)), rfl, .tail _ (.head _), List.forall_mem_cons.mpr ⟨fun z => absurd z u14_27, List.forall_mem_cons.mpr ⟨fun _ => rfl, List.forall_mem_cons.mpr ⟨fun z => absurd z u33_27, List.forall_mem_cons.mpr ⟨fun z => absurd z u34_27, List.forall_mem_cons.mpr ⟨fun z => absurd z u35_27, List.forall_mem_cons.mpr ⟨fun z => absurd z u36_27, fun _ h => nomatch h⟩⟩⟩⟩⟩⟩⟩)) <|
      dd_cons (fn := f28) rfl (def_ok X G a28 fs28 tx28 ok28 bd28 rfl rfl (fun z => nomatch z)) <|
      dd_cons (fn := f29) rfl (def_ok X G a29 fs29 tx29 ok29 bd29 rfl rfl (fun z => nomatch z)) <|
      dd_cons (fn := f30) rfl (def_ok X G a30 fs30 tx30 ok30 bd30 rfl rfl (fun z => nomatch z)) <|
      dd_cons (fn := f31) rfl (def_ok X G a31 fs31 tx31 ok31 bd31 rfl rfl (fun z => nomatch z)) <|
      dd_cons (fn := f32) rfl (def_ok X G a32 fs32 tx32 ok32 bd32 rfl rfl (fun z => nomatch z)) <|
      dd_cons (fn := f33) rfl (def_ok X G a33 fs33 tx33 ok33 bd33 rfl rfl (fun _ => ⟨cc33, pp33, hT (cc33, pp33) (.tail _ (.tail _ (.head _))), rfl, .tail _ (.tail _ (.head _)), List.forall_mem_cons.mpr ⟨fun z => absurd z u14_33, List.forall_mem_cons.mpr ⟨fun z => absurd z u27_33, List.forall_mem_cons.mpr ⟨fun _ => rfl, List.forall_mem_cons.mpr ⟨fun z => absurd z u34_33, List.forall_mem_cons.mpr ⟨fun z => absurd z u35_33, List.forall_mem_cons.mpr ⟨fun z => absurd z u36_33, fun _ h => nomatch h⟩⟩⟩⟩⟩⟩⟩)) <|
      dd_cons (fn := f34) rfl (def_ok X G a34 fs34 tx34 ok34 bd34 rfl rfl (fun _ => ⟨cc34, pp34, hT (cc34, pp34) (.tail _ (.tail _ (.tail _ (.head _)))), rfl, .tail _ (.tail _ (.tail _ (.head _))), List.forall_mem_cons.mpr ⟨fun z => absurd z u14_34, List.forall_mem_cons.mpr ⟨fun z => absurd z u27_34, List.forall_mem_cons.mpr ⟨fun z => absurd z u33_34, List.forall_mem_cons.mpr ⟨fun _ => rfl, List.forall_mem_cons.mpr ⟨fun z => absurd z u35_34, List.forall_mem_cons.mpr ⟨fun z => absurd z u36_34, fun _ h => nomatch h⟩⟩⟩⟩⟩⟩⟩)) <|
      dd_cons (fn := f35) rfl (def_ok X G a35 fs35 tx35 ok35 bd35 rfl rfl (fun _ => ⟨cc35, pp35, hT (cc35, pp35) (.tail _ (.tail _ (.tail _ (.tail _ (.head _))))), rfl, .tail _ (.tail _ (.tail _ (.tail _ (.head _)))), List.forall_mem_cons.mpr ⟨fun z => absurd z u14_35, List.forall_mem_cons.mpr ⟨fun z => absurd z u27_35, List.forall_mem_cons.mpr ⟨fun z => absurd z u33_35, List.forall_mem_cons.mpr ⟨fun z => absurd z u34_35, List.forall_mem_cons.mpr ⟨fun _ => rfl, List.forall_mem_cons.mpr ⟨fun z => absurd z u36_35, fun _ h => nomatch h⟩⟩⟩⟩⟩⟩⟩)) <|
      dd_cons (fn := f36) rfl (def_ok X G a36 fs36 tx36 ok36 bd36 rfl rfl (fun _ => ⟨cc36, pp36, hT (cc36, pp36) (.tail _ (.tail _ (.tail _ (.tail _ (.tail _ (.head _)))))), rfl, .tail _ (.tail _ (.tail _ (.tail _ (.tail _ (.head _))))), List.forall_mem_cons.mpr ⟨fun z => absurd z u14_36, List.forall_mem_cons.mpr ⟨fun z => absurd z u27_36, List.forall_mem_cons.mpr ⟨fun z => absurd z u33_36, List.forall_mem_cons.mpr ⟨fun z => absurd z u34_36, List.forall_mem_cons.mpr ⟨fun z => absurd z u35_36, List.forall_mem_cons.mpr ⟨fun _ => rfl, fun _ h => nomatch h⟩⟩⟩⟩⟩⟩⟩)) <|
      dd_nil
    have key : ∀ e ∈ gis.nums, ∃ t, mg e.1 = some (.int e.2 t) := List.forall_mem_cons.mpr ⟨⟨_, W.mg_of X G i0⟩, List.forall_mem_cons.mpr ⟨⟨_, W.mg_of X G i1⟩, fun _ h => nomatch h⟩⟩
    have kfa : ∀ e ∈ gis.fas, mg e.1 = some (.ref e.2) := List.forall_mem_cons.mpr ⟨W.mg_of X G y0, List.forall_mem_cons.mpr ⟨W.mg_of X G y1, List.forall_mem_cons.mpr ⟨W.mg_of X G y2, fun _ h => nomatch h⟩⟩⟩
    have kcl : ∀ e ∈ gis.cls, ErrC l.prog w K mg base e.1 e.2 := List.forall_mem_cons.mpr ⟨err_of X G x0 ini hfe, List.forall_mem_cons.mpr ⟨err_of X G x1 ini hfe, List.forall_mem_cons.mpr ⟨err_of X G x2 ini hfe, List.forall_mem_cons.mpr ⟨err_of X G x3 ini hfe, List.forall_mem_cons.mpr ⟨err_of X G x4 ini hfe, fun _ h => nomatch h⟩⟩⟩⟩⟩
    have GB : GbOk l.prog w K mg base gis := ⟨fun x n hm => key (x, n) hm, fun x a hm => kfa (x, a) hm, fun x c hm => kcl (x, c) hm, fun _ => hrd_of X G ah txh sch bdh hfe⟩
    have M := dd_all (P := l.prog) (w := w) (Pm := Pm) (blt := blt) (gis := gis) (List.forall_mem_cons.mpr ⟨W.mg_none_of X G z0, List.forall_mem_cons.mpr ⟨W.mg_none_of X G z1, List.forall_mem_cons.mpr ⟨W.mg_none_of X G z2, List.forall_mem_cons.mpr ⟨W.mg_none_of X G z3, List.forall_mem_cons.mpr ⟨W.mg_none_of X G z4, List.forall_mem_cons.mpr ⟨W.mg_none_of X G z5, List.forall_mem_cons.mpr ⟨W.mg_none_of X G z6, List.forall_mem_cons.mpr ⟨W.mg_none_of X G z7, List.forall_mem_cons.mpr ⟨W.mg_none_of X G z8, List.forall_mem_cons.mpr ⟨W.mg_none_of X G z9, List.forall_mem_cons.mpr ⟨W.mg_none_of X G z10, List.forall_mem_cons.mpr ⟨W.mg_none_of X G z11, List.forall_mem_cons.mpr ⟨W.mg_none_of X G z12, List.forall_mem_cons.mpr ⟨W.mg_none_of X G z13, List.forall_mem_cons.mpr ⟨W.mg_none_of X G z14, List.forall_mem_cons.mpr ⟨W.mg_none_of X G z15, List.forall_mem_cons.mpr ⟨W.mg_none_of X G z16, List.forall_mem_cons.mpr ⟨W.mg_none_of X G z17, fun _ h => nomatch h⟩⟩⟩⟩⟩⟩⟩⟩⟩⟩⟩⟩⟩⟩⟩⟩⟩⟩) GB D 20
    · exact law_spec (call := runFn (fxOf Pm (callN Pm 20)) f36) (body_ok (fn := f36) (lam := true) M lk a36.cd fs36 tx36 ok36 rfl rfl (fun _ => ⟨cc36, pp36, hT (cc36, pp36) (.tail _ (.tail _ (.tail _ (.tail _ (.tail _ (.head _)))))), rfl, .tail _ (.tail _ (.tail _ (.tail _ (.tail _ (.head _))))), List.forall_mem_cons.mpr ⟨fun z => absurd z u14_36, List.forall_mem_cons.mpr ⟨fun z => absurd z u27_36, List.forall_mem_cons.mpr ⟨fun z => absurd z u33_36, List.forall_mem_cons.mpr ⟨fun z => absurd z u34_36, List.forall_mem_cons.mpr ⟨fun z => absurd z u35_36, List.forall_mem_cons.mpr ⟨fun _ => rfl, fun _ h => nomatch h⟩⟩⟩⟩⟩⟩⟩)) math
end K11
open PySem PySem.W PyProof.Rows
set_option maxHeartbeats 0 in
theorem PySem.Challenge.cw_leastthatfails_k11_whole_lots_that_cross_holds : PySem.Challenge.rw_leastthatfails_k11_whole_lots_that_cross.Holds := by
  w_on; o_law; k_head; (case hw => w_witness2)
  k_fill
  refine Py.walk_mine (l := PySem.Challenge.rw_leastthatfails_k11_whole_lots_that_cross) (k := 63) (x := "script") rfl rfl ⟨rfl, by decide, by decide⟩ (fun w h Y => km_in_of Y) fun w mg fa h Y KX G hmg => ?_
  refine' K11.all_mk KX G hmg (Py.at1_mk ?a0 ?l0 ?c0 ?k0) (Py.at1_mk ?a1 ?l1 ?c1 ?k1) (Py.at1_mk ?a2 ?l2 ?c2 ?k2) (Py.at1_mk ?a3 ?l3 ?c3 ?k3) (Py.at1_mk ?a4 ?l4 ?c4 ?k4) (Py.at1_mk ?a5 ?l5 ?c5 ?k5) (Py.at1_mk ?a6 ?l6 ?c6 ?k6) (Py.at1_mk ?a7 ?l7 ?c7 ?k7) (Py.at1_mk ?a8 ?l8 ?c8 ?k8) (Py.at1_mk ?a9 ?l9 ?c9 ?k9) (Py.at1_mk ?a10 ?l10 ?c10 ?k10) (Py.at1_mk ?a11 ?l11 ?c11 ?k11) (Py.at1_mk ?a12 ?l12 ?c12 ?k12) (Py.at1_mk ?a13 ?l13 ?c13 ?k13) (Py.at1_mk ?a14 ?l14 ?c14 ?k14) (Py.at1_mk ?a15 ?l15 ?c15 ?k15) (Py.at1_mk ?a16 ?l16 ?c16 ?k16) (Py.at1_mk ?a17 ?l17 ?c17 ?k17) (Py.at1_mk ?a18 ?l18 ?c18 ?k18) (Py.at1_mk ?a19 ?l19 ?c19 ?k19) (Py.at1_mk ?a20 ?l20 ?c20 ?k20) (Py.at1_mk ?a21 ?l21 ?c21 ?k21) (Py.at1_mk ?a22 ?l22 ?c22 ?k22) (Py.at1_mk ?a23 ?l23 ?c23 ?k23) (Py.at1_mk ?a24 ?l24 ?c24 ?k24) (Py.at1_mk ?a25 ?l25 ?c25 ?k25) (Py.at1_mk ?a26 ?l26 ?c26 ?k26) (Py.at1_mk ?a27 ?l27 ?c27 ?k27) (Py.at1_mk ?a28 ?l28 ?c28 ?k28) (Py.at1_mk ?a29 ?l29 ?c29 ?k29) (Py.at1_mk ?a30 ?l30 ?c30 ?k30) (Py.at1_mk ?a31 ?l31 ?c31 ?k31) (Py.at1_mk ?a32 ?l32 ?c32 ?k32) (Py.at1_mk ?a33 ?l33 ?c33 ?k33) (Py.at1_mk ?a34 ?l34 ?c34 ?k34) (Py.at1_mk ?a35 ?l35 ?c35 ?k35) (Py.at1_mk ?a36 ?l36 ?c36 ?k36) ?z0 ?z1 ?z2 ?z3 ?z4 ?z5 ?z6 ?z7 ?z8 ?z9 ?z10 ?z11 ?z12 ?z13 ?z14 ?z15 ?z16 ?z17 ?i0 ?i1 ?q14 ?r14 ?d14 ?e14 ?s14 ?q27 ?r27 ?d27 ?e27 ?s27 ?q33 ?r33 ?d33 ?e33 ?s33 ?q34 ?r34 ?d34 ?e34 ?s34 ?q35 ?r35 ?d35 ?e35 ?s35 ?q36 ?r36 ?d36 ?e36 ?s36 ?u14_27 ?u14_33 ?u14_34 ?u14_35 ?u14_36 ?u27_14 ?u27_33 ?u27_34 ?u27_35 ?u27_36 ?u33_14 ?u33_27 ?u33_34 ?u33_35 ?u33_36 ?u34_14 ?u34_27 ?u34_33 ?u34_35 ?u34_36 ?u35_14 ?u35_27 ?u35_33 ?u35_34 ?u35_36 ?u36_14 ?u36_27 ?u36_33 ?u36_34 ?u36_35 (Py.at1_mk ?ah ?lh ?ch ?kh) ?fe ?ini ?y0 ?y1 ?y2 ?x0 ?x1 ?x2 ?x3 ?x4 K11.math
  (case a0 => k_is); (case l0 => k_is); (case c0 => k_is); (case k0 => k_is); (case a1 => k_is); (case l1 => k_is); (case c1 => k_is); (case k1 => k_is); (case a2 => k_is); (case l2 => k_is); (case c2 => k_is); (case k2 => k_is); (case a3 => k_is); (case l3 => k_is); (case c3 => k_is); (case k3 => k_is); (case a4 => k_is); (case l4 => k_is); (case c4 => k_is); (case k4 => k_is); (case a5 => k_is); (case l5 => k_is); (case c5 => k_is); (case k5 => k_is); (case a6 => k_is); (case l6 => k_is); (case c6 => k_is); (case k6 => k_is); (case a7 => k_is); (case l7 => k_is); (case c7 => k_is); (case k7 => k_is); (case a8 => k_is); (case l8 => k_is); (case c8 => k_is); (case k8 => k_is); (case a9 => k_is); (case l9 => k_is); (case c9 => k_is); (case k9 => k_is); (case a10 => k_is); (case l10 => k_is); (case c10 => k_is); (case k10 => k_is); (case a11 => k_is); (case l11 => k_is); (case c11 => k_is); (case k11 => k_is); (case a12 => k_is); (case l12 => k_is); (case c12 => k_is); (case k12 => k_is); (case a13 => k_is); (case l13 => k_is); (case c13 => k_is); (case k13 => k_is); (case a14 => k_is); (case l14 => k_is); (case c14 => k_is); (case k14 => k_is); (case a15 => k_is); (case l15 => k_is); (case c15 => k_is); (case k15 => k_is); (case a16 => k_is); (case l16 => k_is); (case c16 => k_is); (case k16 => k_is); (case a17 => k_is); (case l17 => k_is); (case c17 => k_is); (case k17 => k_is); (case a18 => k_is); (case l18 => k_is); (case c18 => k_is); (case k18 => k_is); (case a19 => k_is); (case l19 => k_is); (case c19 => k_is); (case k19 => k_is); (case a20 => k_is); (case l20 => k_is); (case c20 => k_is); (case k20 => k_is); (case a21 => k_is); (case l21 => k_is); (case c21 => k_is); (case k21 => k_is); (case a22 => k_is); (case l22 => k_is); (case c22 => k_is); (case k22 => k_is); (case a23 => k_is); (case l23 => k_is); (case c23 => k_is); (case k23 => k_is); (case a24 => k_is); (case l24 => k_is); (case c24 => k_is); (case k24 => k_is); (case a25 => k_is); (case l25 => k_is); (case c25 => k_is); (case k25 => k_is); (case a26 => k_is); (case l26 => k_is); (case c26 => k_is); (case k26 => k_is); (case a27 => k_is); (case l27 => k_is); (case c27 => k_is); (case k27 => k_is); (case a28 => k_is); (case l28 => k_is); (case c28 => k_is); (case k28 => k_is); (case a29 => k_is); (case l29 => k_is); (case c29 => k_is); (case k29 => k_is); (case a30 => k_is); (case l30 => k_is); (case c30 => k_is); (case k30 => k_is); (case a31 => k_is); (case l31 => k_is); (case c31 => k_is); (case k31 => k_is); (case a32 => k_is); (case l32 => k_is); (case c32 => k_is); (case k32 => k_is); (case a33 => k_is); (case l33 => k_is); (case c33 => k_is); (case k33 => k_is); (case a34 => k_is); (case l34 => k_is); (case c34 => k_is); (case k34 => k_is); (case a35 => k_is); (case l35 => k_is); (case c35 => k_is); (case k35 => k_is); (case a36 => k_is); (case l36 => k_is); (case c36 => k_is); (case k36 => k_is); (case z0 => k_is); (case z1 => k_is); (case z2 => k_is); (case z3 => k_is); (case z4 => k_is); (case z5 => k_is); (case z6 => k_is); (case z7 => k_is); (case z8 => k_is); (case z9 => k_is); (case z10 => k_is); (case z11 => k_is); (case z12 => k_is); (case z13 => k_is); (case z14 => k_is); (case z15 => k_is); (case z16 => k_is); (case z17 => k_is); (case i0 => k_is); (case i1 => k_is); (case ah => k_is); (case lh => k_is); (case ch => k_is); (case kh => k_is); (case fe => k_is); (case y0 => k_is); (case y1 => k_is); (case y2 => k_is)
  (case q14 => k_is); (case r14 => rfl)
  (case q27 => k_is); (case r27 => rfl)
  (case q33 => k_is); (case r33 => rfl)
  (case q34 => k_is); (case r34 => rfl)
  (case q35 => k_is); (case r35 => rfl)
  (case q36 => k_is); (case r36 => rfl)
  (case d14 => kernel_rfl); (case e14 => kernel_rfl); (case s14 => exact km_tabs_of Y _ (by decide))
  (case d27 => kernel_rfl); (case e27 => kernel_rfl); (case s27 => exact km_tabs_of Y _ (by decide))
  (case d33 => kernel_rfl); (case e33 => kernel_rfl); (case s33 => exact km_tabs_of Y _ (by decide))
  (case d34 => kernel_rfl); (case e34 => kernel_rfl); (case s34 => exact km_tabs_of Y _ (by decide))
  (case d35 => kernel_rfl); (case e35 => kernel_rfl); (case s35 => exact km_tabs_of Y _ (by decide))
  (case d36 => kernel_rfl); (case e36 => kernel_rfl); (case s36 => exact km_tabs_of Y _ (by decide))
  (case u14_27 => decide)
  (case u14_33 => decide)
  (case u14_34 => decide)
  (case u14_35 => decide)
  (case u14_36 => decide)
  (case u27_14 => decide)
  (case u27_33 => decide)
  (case u27_34 => decide)
  (case u27_35 => decide)
  (case u27_36 => decide)
  (case u33_14 => decide)
  (case u33_27 => decide)
  (case u33_34 => decide)
  (case u33_35 => decide)
  (case u33_36 => decide)
  (case u34_14 => decide)
  (case u34_27 => decide)
  (case u34_33 => decide)
  (case u34_35 => decide)
  (case u34_36 => decide)
  (case u35_14 => decide)
  (case u35_27 => decide)
  (case u35_33 => decide)
  (case u35_34 => decide)
  (case u35_36 => decide)
  (case u36_14 => decide)
  (case u36_27 => decide)
  (case u36_33 => decide)
  (case u36_34 => decide)
  (case u36_35 => decide)
  (case x0 => refine' Py.errK_mk ?a1 ?b1 ?b2 ?b3 ?b4 ?b5 ?b6 ?b7 ?b8 ?a2 ?a3 ?a4 ?c0 ?c1 ?c2 ?c3 ?c4 ?d1 ?d2 ?d3 ?d4 ?d5 ?a5; (case a1 => k_is); (case b1 => k_is); (case b2 => k_is); (case b3 => k_is); (case b4 => k_is); (case b5 => k_is); (case b6 => k_is); (case b7 => k_is); (case b8 => k_is); (case a3 => k_is); (case c0 => k_is); (case c2 => k_is); (case c3 => k_is); (case c4 => k_is); (case d1 => k_is); (case d4 => k_is); (case d5 => k_is); (case a5 => k_is); (case a2 => kernel_rfl); (case a4 => kernel_rfl); (case d3 => kernel_rfl); (case c1 => exact ⟨_, _, _, _, _, _, _, _, _, _, _, _, _, _, _, rfl, by decide +kernel⟩); (case d2 => exact ⟨_, rfl⟩))
  (case x1 => refine' Py.errK_mk ?a1 ?b1 ?b2 ?b3 ?b4 ?b5 ?b6 ?b7 ?b8 ?a2 ?a3 ?a4 ?c0 ?c1 ?c2 ?c3 ?c4 ?d1 ?d2 ?d3 ?d4 ?d5 ?a5; (case a1 => k_is); (case b1 => k_is); (case b2 => k_is); (case b3 => k_is); (case b4 => k_is); (case b5 => k_is); (case b6 => k_is); (case b7 => k_is); (case b8 => k_is); (case a3 => k_is); (case c0 => k_is); (case c2 => k_is); (case c3 => k_is); (case c4 => k_is); (case d1 => k_is); (case d4 => k_is); (case d5 => k_is); (case a5 => k_is); (case a2 => kernel_rfl); (case a4 => kernel_rfl); (case d3 => kernel_rfl); (case c1 => exact ⟨_, _, _, _, _, _, _, _, _, _, _, _, _, _, _, rfl, by decide +kernel⟩); (case d2 => exact ⟨_, rfl⟩))
  (case x2 => refine' Py.errK_mk ?a1 ?b1 ?b2 ?b3 ?b4 ?b5 ?b6 ?b7 ?b8 ?a2 ?a3 ?a4 ?c0 ?c1 ?c2 ?c3 ?c4 ?d1 ?d2 ?d3 ?d4 ?d5 ?a5; (case a1 => k_is); (case b1 => k_is); (case b2 => k_is); (case b3 => k_is); (case b4 => k_is); (case b5 => k_is); (case b6 => k_is); (case b7 => k_is); (case b8 => k_is); (case a3 => k_is); (case c0 => k_is); (case c2 => k_is); (case c3 => k_is); (case c4 => k_is); (case d1 => k_is); (case d4 => k_is); (case d5 => k_is); (case a5 => k_is); (case a2 => kernel_rfl); (case a4 => kernel_rfl); (case d3 => kernel_rfl); (case c1 => exact ⟨_, _, _, _, _, _, _, _, _, _, _, _, _, _, _, rfl, by decide +kernel⟩); (case d2 => exact ⟨_, rfl⟩))
  (case x3 => refine' Py.errK_mk ?a1 ?b1 ?b2 ?b3 ?b4 ?b5 ?b6 ?b7 ?b8 ?a2 ?a3 ?a4 ?c0 ?c1 ?c2 ?c3 ?c4 ?d1 ?d2 ?d3 ?d4 ?d5 ?a5; (case a1 => k_is); (case b1 => k_is); (case b2 => k_is); (case b3 => k_is); (case b4 => k_is); (case b5 => k_is); (case b6 => k_is); (case b7 => k_is); (case b8 => k_is); (case a3 => k_is); (case c0 => k_is); (case c2 => k_is); (case c3 => k_is); (case c4 => k_is); (case d1 => k_is); (case d4 => k_is); (case d5 => k_is); (case a5 => k_is); (case a2 => kernel_rfl); (case a4 => kernel_rfl); (case d3 => kernel_rfl); (case c1 => exact ⟨_, _, _, _, _, _, _, _, _, _, _, _, _, _, _, rfl, by decide +kernel⟩); (case d2 => exact ⟨_, rfl⟩))
  (case x4 => refine' Py.errK_mk ?a1 ?b1 ?b2 ?b3 ?b4 ?b5 ?b6 ?b7 ?b8 ?a2 ?a3 ?a4 ?c0 ?c1 ?c2 ?c3 ?c4 ?d1 ?d2 ?d3 ?d4 ?d5 ?a5; (case a1 => k_is); (case b1 => k_is); (case b2 => k_is); (case b3 => k_is); (case b4 => k_is); (case b5 => k_is); (case b6 => k_is); (case b7 => k_is); (case b8 => k_is); (case a3 => k_is); (case c0 => k_is); (case c2 => k_is); (case c3 => k_is); (case c4 => k_is); (case d1 => k_is); (case d4 => k_is); (case d5 => k_is); (case a5 => k_is); (case a2 => kernel_rfl); (case a4 => kernel_rfl); (case d3 => kernel_rfl); (case c1 => exact ⟨_, _, _, _, _, _, _, _, _, _, _, _, _, _, _, rfl, by decide +kernel⟩); (case d2 => exact ⟨_, rfl⟩))
  (case ini => refine' Py.initK_mk ?h0 ?h1 ?h2 ?h3 ?h4a ?h4 ?h5 ?h6 ?h7 ?h8 ?h9 ?h10 ?h11; (case h0 => k_is); (case h1 => rfl); (case h2 => rfl); (case h5 => k_is); (case h6 => rfl); (case h3 => k_is); (case h4a => k_is); (case h4 => rfl); (case h7 => kernel_rfl); (case h8 => kernel_rfl); (case h9 => k_is); (case h10 => kernel_rfl); (case h11 => k_is))
end
