import PyProof.Rows.All
import Wide.All
import OpenK.AllK
import Wide.FinOn
import HandS.ForMost
import HandS.ForExc
import HandS.StrMore
import HandS.TupAny
import HandS.Lambda
import KE.DataEq
import HandS.HeadHook1
import HandS.CallSlots
import HandS.TupMul
import HandS.IsInst
import HandS.Walk
import HandS.WordsDict
import HandS.Defaults
import HandS.ExcOwn
import HandS.TryOnly
import HandS.More
import HandS.Strs
import HandS.Keys
import KE.SortData
import PyProof.ListStr
import HandS.WordsExc
import HandS.HeadHook2
import HandS.HeadHook3
import HandS.HeadHook4
import HandS.HeadWalk
import HandS.Head0
import HandS.Head1
import HandS.Head2
import HandS.HeadEnd
import PySem.Challenge.RW_nothinglost_k02_disks_that_lose
section
set_option Elab.async false
set_option linter.all false
set_option maxRecDepth 100000
/-! Lt: a small language with places for names, its meaning as plain functions, and how it is written in the model's syntax. -/
namespace Lt
open PySem L2

/-! ### data -/
inductive E where
  | non | bl (b : Bool) | int (i : Int) | str (x : Str) | tup (es : List E) | ref (n : Nat)
inductive Ob where
  | lst (es : List E)
  | rol (es : List E)
  | dct (kvs : List (Str × E))
  | ins (c : Str) (fs : List (Str × E))
abbrev Hq := List Ob
abbrev Ro := List (Option E)
inductive R (α : Type) where
  | ok (a : α) (G : Hq)
  | ex (c : Nat) (G : Hq)
  | bad
inductive RS where
  | nx (ρ : Ro) (G : Hq)
  | rt (v : E) (G : Hq)
  | bk (ρ : Ro) (G : Hq)
  | ct (ρ : Ro) (G : Hq)
  | ex (c : Nat) (ρ : Ro) (G : Hq)
  | bad
def R.bind {α β : Type} (r : R α) (f : α → Hq → R β) : R β := match r with
  | .ok a G => f a G
  | .ex c G => .ex c G
  | .bad => .bad
@[simp] theorem R.bind_ok {α β : Type} (a : α) (G : Hq) (f : α → Hq → R β) : (R.ok a G).bind f = f a G := rfl
@[simp] theorem R.bind_ex {α β : Type} (c : Nat) (G : Hq) (f : α → Hq → R β) : (R.ex c G).bind f = .ex c G := rfl
@[simp] theorem R.bind_bad {α β : Type} (f : α → Hq → R β) : (R.bad : R α).bind f = .bad := rfl

/-! ### syntax -/
inductive BOp where | add | sub | mul | fdiv | mod
inductive COp where | eq | ne | lt | le | gt | ge
/-- a built-in of one value -/
inductive B1 where | len | abs | int
/-- a built-in of one list -/
inductive BL where | tup | all | any | sum
/-- a type's name -/
inductive TyN where | str | tup
/-- a name that is stored -/
structure Nm where
  i : Nat
  x : Str
  p : Pos
inductive Tg where
  | name (n : Nm)
  | tup (ns : List Nm) (k : Nat) (p : Pos)
mutual
inductive Ex where
  | var (i : Nat) (x : Str) (p : Pos)
  | glb (j : Nat) (x : Str) (p : Pos)
  | int (i : Int) (k : Nat) (p : Pos)
  | bl (b : Bool) (k : Nat) (p : Pos)
  | non (k : Nat) (p : Pos)
  | str (x : Str) (k : Nat) (p : Pos)
  | bin (o : BOp) (a b : Ex) (p : Pos)
  | cmp (o : COp) (a b : Ex) (p : Pos)
  | isN (a : Ex) (k : Nat) (p1 p : Pos)
  | ntN (a : Ex) (k : Nat) (p1 p : Pos)
  | not (a : Ex) (p : Pos)
  | and (es : Exs) (p : Pos)
  | or (es : Exs) (p : Pos)
  | ifx (c a b : Ex) (p : Pos)
  | tup (es : Exs) (k : Nat) (p : Pos)
  | sub (a i : Ex) (p : Pos)
  | slice (a : Ex) (lo hi : Ox) (p1 p : Pos)
  | call (f : Nat) (x : Str) (es : Exs) (p1 p : Pos)
  | bi1 (b : B1) (a : Ex) (p1 p : Pos)
  | biL (b : BL) (l : Lx) (p1 p : Pos)
  | isi (a : Ex) (t : TyN) (p1 p2 p : Pos)
  | inS (a b : Ex) (p : Pos)
  | sidx (a b : Ex) (p1 p : Pos)
  | join (a : Ex) (l : Lx) (p1 p : Pos)
  | subL (l : Lx) (i : Ex) (p : Pos)
  | new (l : Lx)
  | dct (ks : List (Str × Nat × Pos)) (es : Exs) (p : Pos)
  | lenSet (a : Ex) (p1 p2 p3 p : Pos)
  | neL (l1 l2 : Lx) (p : Pos)
  | refd (g : Nat) (x : Str) (e : Ex) (sc : Scope) (p1 p2 p : Pos)
  | attr (a : Ex) (f : Str) (p : Pos)
  | meth (a : Ex) (m : Str) (es : Exs) (p1 p : Pos)
  | make (c : Str) (es : Exs) (p1 p : Pos)
  | dct0 (p : Pos)
  | dcp (a : Ex) (p1 p : Pos)
  | dget (a k d : Ex) (p1 p : Pos)
  | dpop (a k d : Ex) (p1 p : Pos)
  | chain (o1 o2 : COp) (a b c : Ex) (p : Pos)
  | tupE (a : Ex) (p1 p : Pos)
  | min2 (a b : Ex) (p1 p : Pos)
inductive Exs where
  | nil
  | cons (e : Ex) (r : Exs)
inductive Ox where
  | none
  | some (e : Ex)
/-- a list that is made on the way, or one that stands -/
inductive Lx where
  | ofE (e : Ex)
  | disp (es : Exs) (p : Pos)
  | cat (a b : Lx) (p : Pos)
  | listS (a : Ex) (p1 p : Pos)
  | sortS (a : Ex) (p1 p : Pos)
  | listT (a : Ex) (p1 p : Pos)
  | lc (e : Ex) (t : Tg) (it : It) (c : Ox) (sc : Scope) (own : List (Str × Nat)) (p : Pos)
/-- what is walked -/
inductive It where
  | l (l : Lx)
  | a (e : Ex)
  | r1 (a : Ex) (p1 p : Pos)
  | r2 (a b : Ex) (p1 p : Pos)
end
mutual
inductive Stm where
  | asg (t : Tg) (e : Ex) (p : Pos)
  | asgL (n : Nm) (l : Lx) (p : Pos)
  | par (a b : Nm) (e f : Ex) (k1 k2 : Nat) (p1 p2 p : Pos)
  | aug (o : BOp) (n : Nm) (e : Ex) (p : Pos)
  | setD (o k e : Ex) (p1 p : Pos)
  | setI (o k e : Ex) (p1 p : Pos)
  | setA (o : Ex) (f : Str) (e : Ex) (p1 p : Pos)
  | augA (o : BOp) (a : Ex) (f : Str) (e : Ex) (p1 p : Pos)
  | parA (o1 : Ex) (f1 : Str) (o2 : Ex) (f2 : Str) (e1 e2 : Ex) (k1 k2 : Nat) (q1 q2 p1 p2 p : Pos)
  | tri (b : Stms) (g : Nat) (x : Str) (o : COp) (i : Nat) (xi : Str) (pi : Pos) (j : Nat) (xj : Str) (pj p1 : Pos) (v : Bool) (k : Nat) (p2 p3 p4 p5 p6 p : Pos)
  | expr (e : Ex) (p : Pos)
  | app (o e : Ex) (p1 p2 p : Pos)
  | ifs (c : Ex) (a b : Stms) (p : Pos)
  | forr (t : Tg) (it : It) (b : Stms) (p : Pos)
  | whil (c : Ex) (b : Stms) (p : Pos)
  | ret (e : Ex) (p : Pos)
  | retN (p : Pos)
  | rais (c : Nat) (x m : Str) (k : Nat) (p1 p2 p3 p : Pos)
  | pas (p : Pos)
  | brk (p : Pos)
  | cont (p : Pos)
inductive Stms where
  | nil
  | cons (s : Stm) (r : Stms)
end

def BOp.py : BOp → Operator
  | .add => .Add | .sub => .Sub | .mul => .Mult | .fdiv => .FloorDiv | .mod => .Mod
def COp.py : COp → CmpOp
  | .eq => .Eq | .ne => .NotEq | .lt => .Lt | .le => .LtE | .gt => .Gt | .ge => .GtE
def B1.name : B1 → Str
  | .len => "len" | .abs => "abs" | .int => "int"
def BL.name : BL → Str
  | .tup => "tuple" | .all => "all" | .any => "any" | .sum => "sum"
def TyN.name : TyN → Str
  | .str => "str" | .tup => "tuple"
def Nm.py (n : Nm) : Expr := .Name n.x n.p
def Tg.py : Tg → Expr
  | .name n => n.py
  | .tup ns k p => .Tuple (ns.map Nm.py) k p
mutual
def Ex.py : Ex → Expr
  | .var _ x p => .Name x p
  | .glb _ x p => .Name x p
  | .int i k p => .Constant (.int i) k p
  | .bl b k p => .Constant (.bool b) k p
  | .non k p => .Constant .none k p
  | .str x k p => .Constant (.str x) k p
  | .bin o a b p => .BinOp a.py o.py b.py p
  | .cmp o a b p => .Compare a.py [o.py] [b.py] p
  | .isN a k p1 p => .Compare a.py [.Is] [.Constant .none k p1] p
  | .ntN a k p1 p => .Compare a.py [.IsNot] [.Constant .none k p1] p
  | .not a p => .UnaryOp .Not a.py p
  | .and es p => .BoolOp .And es.py p
  | .or es p => .BoolOp .Or es.py p
  | .ifx c a b p => .IfExp c.py a.py b.py p
  | .tup es k p => .Tuple es.py k p
  | .sub a i p => .Subscript a.py i.py p
  | .slice a lo hi p1 p => .Subscript a.py (.Slice lo.py hi.py none p1) p
  | .call _ x es p1 p => .Call (.Name x p1) es.py [] p
  | .bi1 b a p1 p => .Call (.Name b.name p1) [a.py] [] p
  | .biL b l p1 p => .Call (.Name b.name p1) [l.py] [] p
  | .isi a t p1 p2 p => .Call (.Name "isinstance" p1) [a.py, .Name t.name p2] [] p
  | .inS a b p => .Compare a.py [.In] [b.py] p
  | .sidx a b p1 p => .Call (.Attribute a.py "index" p1) [b.py] [] p
  | .join a l p1 p => .Call (.Attribute a.py "join" p1) [l.py] [] p
  | .subL l i p => .Subscript l.py i.py p
  | .new l => l.py
  | .dct ks es p => .Dict (ks.map fun k => some (.Constant (.str k.1) k.2.1 k.2.2)) es.py p
  | .lenSet a p1 p2 p3 p => .Call (.Name "len" p1) [.Call (.Name "set" p2) [a.py] [] p3] [] p
  | .neL l1 l2 p => .Compare l1.py [.NotEq] [l2.py] p
  | .refd _ x e sc p1 p2 p => .Call (.Name x p1) [.Lambda ⟨[], [], none, [], [], none, []⟩ e.py sc p2] [] p
  | .attr a f p => .Attribute a.py f p
  | .meth a m es p1 p => .Call (.Attribute a.py m p1) es.py [] p
  | .make c es p1 p => .Call (.Name c p1) es.py [] p
  | .dct0 p => .Dict [] [] p
  | .dcp a p1 p => .Call (.Name "dict" p1) [a.py] [] p
  | .dget a k d p1 p => .Call (.Attribute a.py "get" p1) [k.py, d.py] [] p
  | .dpop a k d p1 p => .Call (.Attribute a.py "pop" p1) [k.py, d.py] [] p
  | .chain o1 o2 a b c p => .Compare a.py [o1.py, o2.py] [b.py, c.py] p
  | .tupE a p1 p => .Call (.Name "tuple" p1) [a.py] [] p
  | .min2 a b p1 p => .Call (.Name "min" p1) [a.py, b.py] [] p
def Exs.py : Exs → List Expr
  | .nil => []
  | .cons e r => e.py :: r.py
def Ox.py : Ox → Option Expr
  | .none => Option.none
  | .some e => Option.some e.py
def Ox.pys : Ox → List Expr
  | .none => []
  | .some e => [e.py]
def Lx.py : Lx → Expr
  | .ofE e => e.py
  | .disp es p => .List es.py p
  | .cat a b p => .BinOp a.py .Add b.py p
  | .listS a p1 p => .Call (.Name "list" p1) [a.py] [] p
  | .sortS a p1 p => .Call (.Name "sorted" p1) [a.py] [] p
  | .listT a p1 p => .Call (.Name "list" p1) [a.py] [] p
  | .lc e t it c sc _ p => .ListComp e.py [⟨t.py, it.py, c.pys, 0⟩] sc p
def It.py : It → Expr
  | .l l => l.py
  | .a e => e.py
  | .r1 a p1 p => .Call (.Name "range" p1) [a.py] [] p
  | .r2 a b p1 p => .Call (.Name "range" p1) [a.py, b.py] [] p
end
mutual
def Stm.py : Stm → Stmt
  | .asg t e p => .Assign [t.py] e.py p
  | .asgL n l p => .Assign [n.py] l.py p
  | .par a b e f k1 k2 p1 p2 p => .Assign [.Tuple [a.py, b.py] k1 p1] (.Tuple [e.py, f.py] k2 p2) p
  | .aug o n e p => .AugAssign n.py o.py e.py p
  | .setD o k e p1 p => .Assign [.Subscript o.py k.py p1] e.py p
  | .setI o k e p1 p => .Assign [.Subscript o.py k.py p1] e.py p
  | .setA o f e p1 p => .Assign [.Attribute o.py f p1] e.py p
  | .augA o a f e p1 p => .AugAssign (.Attribute a.py f p1) o.py e.py p
  | .parA o1 f1 o2 f2 e1 e2 k1 k2 q1 q2 p1 p2 p => .Assign [.Tuple [.Attribute o1.py f1 q1, .Attribute o2.py f2 q2] k1 p1] (.Tuple [e1.py, e2.py] k2 p2) p
  | .tri b _ x o _ xi pi _ xj pj p1 v k p2 p3 p4 p5 p6 p => .Try b.py [.ExceptHandler (some (.Name x p5)) none [.If (.Compare (.Name xi pi) [o.py] [.Name xj pj] p1) [.Return (some (.Constant (.bool v) k p2)) p3] [] p4] p6] [] [] p
  | .expr e p => .Expr e.py p
  | .app o e p1 p2 p => .Expr (.Call (.Attribute o.py "append" p1) [e.py] [] p2) p
  | .ifs c a b p => .If c.py a.py b.py p
  | .forr t it b p => .For t.py it.py b.py [] p
  | .whil c b p => .While c.py b.py [] p
  | .ret e p => .Return (some e.py) p
  | .retN p => .Return none p
  | .rais _ x m k p1 p2 p3 p => .Raise (some (.Call (.Name x p1) [.Constant (.str m) k p2] [] p3)) none p
  | .pas p => .Pass p
  | .brk p => .Break p
  | .cont p => .Continue p
def Stms.py : Stms → List Stmt
  | .nil => []
  | .cons s r => s.py :: r.py
end
/-! ### values -/
mutual
def E.dat : E → Option PyData
  | .non => some .none
  | .bl b => some (.bool b)
  | .int i => some (.int i)
  | .str x => some (.str x)
  | .tup es => (E.dats es).map .tuple
  | .ref _ => none
def E.dats : List E → Option (List PyData)
  | [] => some []
  | e :: r => match e.dat, E.dats r with
    | some d, some ds => some (d :: ds)
    | _, _ => none
end
def mulOk (i j : Int) : Bool := decide (-(2 ^ 64) < i ∧ i < 2 ^ 64) || decide (-(2 ^ 64) < j ∧ j < 2 ^ 64)
def binop : BOp → E → E → Option E
  | .add, .int i, .int j => some (.int (i + j))
  | .add, .str x, .str y => if x.length + y.length ≤ sizeLine then some (.str (x ++ y)) else none
  | .add, .tup xs, .tup ys => if xs.length + ys.length ≤ sizeLine then some (.tup (xs ++ ys)) else none
  | .sub, .int i, .int j => some (.int (i - j))
  | .mul, .int i, .int j => if mulOk i j then some (.int (i * j)) else none
  | .mul, .tup xs, .int k => if xs ≠ [] ∧ 2 ≤ k ∧ k ≤ 10000 ∧ xs.length ≤ 1000 then some (.tup (List.replicate k.toNat xs).flatten) else none
  | .fdiv, .int i, .int j => if j ≠ 0 ∧ j.natAbs < 1073741824 then some (.int (i.fdiv j)) else none
  | .mod, .int i, .int j => if j ≠ 0 then some (.int (i.fmod j)) else none
  | _, _, _ => none
def eqE (x y : E) : Option Bool := match x.dat, y.dat with
  | some d, some e => if d.depth ≤ 64 ∨ e.depth ≤ 64 then some (PyData.eqv d e) else none
  | _, _ => none
def cmpop : COp → E → E → Option Bool
  | .eq, x, y => eqE x y
  | .ne, x, y => (eqE x y).map (!·)
  | .lt, .int i, .int j => some (decide (i < j))
  | .le, .int i, .int j => some (decide (i ≤ j))
  | .gt, .int i, .int j => some (decide (i > j))
  | .ge, .int i, .int j => some (decide (i ≥ j))
  | _, _, _ => none
def optR {α : Type} (o : Option α) (G : Hq) : R α := match o with
  | some a => .ok a G
  | none => .bad
@[simp] theorem optR_some {α : Type} (a : α) (G : Hq) : optR (some a) G = .ok a G := rfl
@[simp] theorem optR_none {α : Type} (G : Hq) : optR (none : Option α) G = .bad := rfl
def truthy : E → Option Bool
  | .bl b => some b
  | .int i => some (i != 0)
  | .str x => if x.length ≤ sizeLine then some (x.length != 0) else none
  | .tup es => some (!es.isEmpty)
  | .non => some false
  | _ => none
/-! ### meaning -/
structure Par where
  cl : Nat → List E → Hq → R E
  gl : Nat → Option E
  rf : Nat → Nat → Bool
  wf : Nat
  /-- class, attribute -/
  av : Str → Str → Bool
  /-- class, method: its def, how many parameters -/
  mv : Str → Str → Option (Nat × Nat)
  ci : Str → Option (Nat × Nat)
  /-- clause, exception -/
  tf : Nat → Nat → Bool
abbrev Sx (α : Type) := Ro → Hq → R α
def sVar (i : Nat) : Sx E := fun ρ G => match ρ[i]? with
  | some (some v) => .ok v G
  | _ => .bad
def sBin (o : BOp) (a b : Sx E) : Sx E := fun ρ G => (a ρ G).bind fun x G1 => (b ρ G1).bind fun y G2 => optR (binop o x y) G2
def sCmp (o : COp) (a b : Sx E) : Sx Bool := fun ρ G => (a ρ G).bind fun x G1 => (b ρ G1).bind fun y G2 => optR (cmpop o x y) G2
def isNon : E → Bool
  | .non => true
  | _ => false
def sBl (a : Sx Bool) : Sx E := fun ρ G => (a ρ G).bind fun b G1 => .ok (.bl b) G1
def sIsN (a : Sx E) : Sx Bool := fun ρ G => (a ρ G).bind fun x G1 => .ok (isNon x) G1
def sNtN (a : Sx E) : Sx Bool := fun ρ G => (a ρ G).bind fun x G1 => .ok (!isNon x) G1
def sNot (a : Sx Bool) : Sx Bool := fun ρ G => (a ρ G).bind fun b G1 => .ok (!b) G1
def sTru (a : Sx E) : Sx Bool := fun ρ G => (a ρ G).bind fun x G1 => optR (truthy x) G1
/-- a bool alone -/
def asB : E → Option Bool
  | .bl b => some b
  | _ => none
def sAsB (a : Sx E) : Sx Bool := fun ρ G => (a ρ G).bind fun x G1 => optR (asB x) G1
def sAnd (a b : Sx Bool) : Sx Bool := fun ρ G => (a ρ G).bind fun x G1 => if x then b ρ G1 else .ok false G1
def sOr (a b : Sx Bool) : Sx Bool := fun ρ G => (a ρ G).bind fun x G1 => if x then .ok true G1 else b ρ G1
def sIf (c : Sx Bool) (a b : Sx E) : Sx E := fun ρ G => (c ρ G).bind fun x G1 => if x then a ρ G1 else b ρ G1
def sTup (a : Sx (List E)) : Sx E := fun ρ G => (a ρ G).bind fun xs G1 => if xs.length ≤ sizeLine then .ok (.tup xs) G1 else .bad
def sNil : Sx (List E) := fun _ G => .ok [] G
def sCons (a : Sx E) (r : Sx (List E)) : Sx (List E) := fun ρ G => (a ρ G).bind fun x G1 => (r ρ G1).bind fun xs G2 => .ok (x :: xs) G2
/-- x[i] by values -/
def subE (G : Hq) : E → E → Option E
  | .tup xs, .int i => atI xs i
  | .str z, .int i => if z.length ≤ sizeLine then (atI z.cps.toList i).map fun c => .str ⟨#[c]⟩ else none
  | .ref n, .int i => match G[n]? with
    | some (.lst xs) => atI xs i
    | some (.rol xs) => atI xs i
    | _ => none
  | .ref n, .str k => match G[n]? with
    | some (.dct kvs) => kvs.lookup k
    | _ => none
  | _, _ => none
def sSub (a i : Sx E) : Sx E := fun ρ G => (a ρ G).bind fun x G1 => (i ρ G1).bind fun y G2 => optR (subE G2 x y) G2
def sOnone : Sx (Option Int) := fun _ G => .ok none G
def sOsome (a : Sx E) : Sx (Option Int) := fun ρ G => (a ρ G).bind fun x G1 => match x with
  | .int i => .ok (some i) G1
  | _ => .bad
def cutE (lo hi : Option Int) : E → Option E
  | .tup xs => some (.tup ((xs.drop (HT.sIx xs.length 0 lo)).take (HT.sIx xs.length xs.length hi - HT.sIx xs.length 0 lo)))
  | .str z => if z.length ≤ sizeLine then some (.str (cutS z lo hi)) else none
  | _ => none
def sSlice (a : Sx E) (lo hi : Sx (Option Int)) : Sx E := fun ρ G => (a ρ G).bind fun x G1 => (lo ρ G1).bind fun l G2 => (hi ρ G2).bind fun h G3 => optR (cutE l h x) G3
def sCall (P : Par) (f : Nat) (a : Sx (List E)) : Sx E := fun ρ G => (a ρ G).bind fun xs G1 => P.cl f xs G1
def sGlb (P : Par) (j : Nat) : Sx E := fun _ G => optR (P.gl j) G
def sC (v : E) : Sx E := fun _ G => .ok v G
/-! lists on the way -/
inductive LH where
  | tmp (es : List E)
  | pl (n : Nat)
def LH.get (G : Hq) : LH → Option (List E)
  | .tmp es => some es
  | .pl n => match G[n]? with
    | some (.lst xs) => some xs
    | some (.rol xs) => some xs
    | _ => none
/-- one that is the program's own to write -/
def LH.getM (G : Hq) : LH → Option (List E)
  | .tmp es => some es
  | .pl n => match G[n]? with
    | some (.lst xs) => some xs
    | _ => none
def sOfE (a : Sx E) : Sx LH := fun ρ G => (a ρ G).bind fun x G1 => match x with
  | .ref n => if (LH.get G1 (.pl n)).isSome then .ok (.pl n) G1 else .bad
  | _ => .bad
def sDisp (a : Sx (List E)) : Sx LH := fun ρ G => (a ρ G).bind fun xs G1 => if xs.length ≤ sizeLine then .ok (.tmp xs) G1 else .bad
def sCat (a b : Sx LH) : Sx LH := fun ρ G => (a ρ G).bind fun x G1 => (b ρ G1).bind fun y G2 => (optR (x.getM G2) G2).bind fun xs _ => (optR (y.getM G2) G2).bind fun ys _ => if xs.length + ys.length ≤ sizeLine then .ok (.tmp (xs ++ ys)) G2 else .bad
def lenE (G : Hq) : E → Option Nat
  | .tup xs => some xs.length
  | .str x => if x.length ≤ sizeLine then some x.length else none
  | .ref n => match G[n]? with
    | some (.lst xs) => some xs.length
    | some (.rol xs) => some xs.length
    | some (.dct kvs) => some kvs.length
    | _ => none
  | _ => none
def bi1E (G : Hq) : B1 → E → Option E
  | .len, x => (lenE G x).map fun (n : Nat) => E.int (n : Int)
  | .abs, .int i => some (.int (if i < 0 then -i else i))
  | .int, .int i => some (.int i)
  | .int, .bl b => some (.int (if b then 1 else 0))
  | _, _ => none
def sBi1 (b : B1) (a : Sx E) : Sx E := fun ρ G => (a ρ G).bind fun x G1 => optR (bi1E G1 b x) G1
def asBs : List E → Option (List Bool)
  | [] => some []
  | e :: r => match asB e, asBs r with
    | some b, some bs => some (b :: bs)
    | _, _ => none
def asIs : List E → Option (List Int)
  | [] => some []
  | .int i :: r => (asIs r).map (i :: ·)
  | _ :: _ => none
def biLE : BL → List E → Option E
  | .tup, xs => some (.tup xs)
  | .all, xs => (asBs xs).map fun bs => .bl (bs.all id)
  | .any, xs => (asBs xs).map fun bs => .bl (bs.any id)
  | .sum, xs => (asIs xs).map fun is => .int is.sum
def sBiL (b : BL) (l : Sx LH) : Sx E := fun ρ G => (l ρ G).bind fun x G1 => (optR (x.get G1) G1).bind fun xs _ => optR (biLE b xs) G1
def isiE : TyN → E → Option Bool
  | .str, .str _ => some true
  | .tup, .tup _ => some true
  | _, .ref _ => none
  | _, _ => some false
def sIsi (t : TyN) (a : Sx E) : Sx E := fun ρ G => (a ρ G).bind fun x G1 => (optR (isiE t x) G1).bind fun b _ => .ok (.bl b) G1
def inSE : E → E → Option Bool
  | .str a, .str z => match a.cps.toList with
    | [c] => some (decide (c ∈ z.cps.toList))
    | _ => none
  | _, _ => none
def sInS (a b : Sx E) : Sx Bool := fun ρ G => (a ρ G).bind fun x G1 => (b ρ G1).bind fun y G2 => optR (inSE x y) G2
def sidxE : E → E → Option E
  | .str a, .str b => (Txt.index0 a b).map fun k => .int (k : Nat)
  | _, _ => none
def sSidx (a b : Sx E) : Sx E := fun ρ G => (a ρ G).bind fun x G1 => match x with
  | .str z => (b ρ G1).bind fun y G2 => optR (sidxE (.str z) y) G2
  | _ => .bad
def asSs : List E → Option (List Str)
  | [] => some []
  | .str x :: r => (asSs r).map (x :: ·)
  | _ :: _ => none
def joinE (a : E) (xs : List E) : Option E := match a, asSs xs with
  | .str a, some ys => if (ys.map (·.length)).sum + ys.length * a.length ≤ 16777216 then some (.str (Txt.join a ys)) else none
  | _, _ => none
def sJoin (a : Sx E) (l : Sx LH) : Sx E := fun ρ G => (a ρ G).bind fun x G1 => match x with
  | .str z => (l ρ G1).bind fun y G2 => (optR (y.get G2) G2).bind fun xs _ => optR (joinE (.str z) xs) G2
  | _ => .bad
def intE : E → Option Int
  | .int i => some i
  | _ => none
def sSubL (l : Sx LH) (i : Sx E) : Sx E := fun ρ G => (l ρ G).bind fun x G1 => (i ρ G1).bind fun y G2 => (optR (x.get G2) G2).bind fun xs _ => (optR (intE y) G2).bind fun j _ => optR (atI xs j) G2
def sNew (l : Sx LH) : Sx E := fun ρ G => (l ρ G).bind fun x G1 => match x with
  | .tmp xs => .ok (.ref G1.length) (G1 ++ [.lst xs])
  | .pl _ => .bad
def sDct (ks : List Str) (a : Sx (List E)) : Sx E := fun ρ G => (a ρ G).bind fun xs G1 => if decide (ks.length = xs.length) && decide (ks ≠ []) && decide (ks.length ≤ 15) && decide ks.Nodup then .ok (.ref G1.length) (G1 ++ [.dct (ks.zip xs)]) else .bad
def sRefd (P : Par) (g : Nat) (a : Sx E) : Sx E := fun ρ G => match a ρ G with
  | .ok _ G1 => .ok (.bl false) G1
  | .ex c G1 => if P.rf g c then .ok (.bl true) G1 else .bad
  | .bad => .bad
/-- the signs, each once -/
def nodupB : List Nat → Bool
  | [] => true
  | x :: r => !(r.any fun y => y == x) && nodupB r
def risesB : List Nat → Bool
  | [] => true
  | [_] => true
  | x :: y :: r => decide (x ≤ y) && risesB (y :: r)
def lenSetE : E → Option E
  | .str z => if z.length < 4000 ∧ nodupB z.cps.toList = true then some (.int z.length) else none
  | _ => none
def sLenSet (a : Sx E) : Sx E := fun ρ G => (a ρ G).bind fun x G1 => optR (lenSetE x) G1
def signs (x : Str) : List E := x.cps.toList.map fun c => .str ⟨#[c]⟩
def sListS (a : Sx E) : Sx LH := fun ρ G => (a ρ G).bind fun x G1 => match x with
  | .str z => if z.length ≤ 4000 then .ok (.tmp (signs z)) G1 else .bad
  | _ => .bad
/-- texts in order -/
def leS (a b : Str) : Bool := !PySem.Spec.ltCps b.cps.toList a.cps.toList
def keysOf (kvs : List (Str × E)) : List Str := (kvs.map (·.1)).mergeSort leS
def sSortS (a : Sx E) : Sx LH := fun ρ G => (a ρ G).bind fun x G1 => match x with
  | .ref n => (match G1[n]? with
    | some (.dct kvs) => if kvs.length < 64 then .ok (.tmp ((keysOf kvs).map E.str)) G1 else .bad
    | _ => .bad)
  | .str z => if z.length ≤ 4000 ∧ risesB z.cps.toList = true then .ok (.tmp (signs z)) G1 else .bad
  | _ => .bad
def sListT (a : Sx E) : Sx LH := fun ρ G => (a ρ G).bind fun x G1 => match x with
  | .tup xs => .ok (.tmp xs) G1
  | _ => .bad
def attrE (P : Par) (G : Hq) (f : Str) : E → Option E
  | .ref n => match G[n]? with
    | some (.ins c fs) => if P.av c f then fs.lookup f else none
    | _ => none
  | _ => none
def sAttr (P : Par) (a : Sx E) (f : Str) : Sx E := fun ρ G => (a ρ G).bind fun x G1 => optR (attrE P G1 f x) G1
def R.nox {α : Type} : R α → R α
  | .ok a G => .ok a G
  | _ => .bad
/-- the instance, its class's method -/
def methE (P : Par) (G : Hq) (m : Str) : E → Option (Nat × Nat)
  | .ref n => match G[n]? with
    | some (.ins c fs) => if (fs.lookup m).isNone then P.mv c m else none
    | _ => none
  | _ => none
def sMeth (P : Par) (a : Sx E) (m : Str) (es : Sx (List E)) : Sx E := fun ρ G => ((a ρ G).nox).bind fun x G1 => (optR (methE P G1 m x) G1).bind fun f _ => (es ρ G1).bind fun xs G2 => if xs.length + 1 = f.2 then P.cl f.1 (x :: xs) G2 else .bad
def sMake (P : Par) (c : Str) (es : Sx (List E)) : Sx E := fun ρ G => (optR (P.ci c) G).bind fun f _ => (es ρ G).bind fun xs G1 => if xs.length + 1 = f.2 then ((P.cl f.1 (.ref G1.length :: xs) (G1 ++ [.ins c []])).nox).bind fun v G2 => (match v with
  | .non => .ok (.ref G1.length) G2
  | _ => .bad) else .bad
def sDct0 : Sx E := fun _ G => .ok (.ref G.length) (G ++ [.dct []])
/-- a dict's pairs -/
def dctE (G : Hq) : E → Option (List (Str × E))
  | .ref n => match G[n]? with
    | some (.dct kvs) => some kvs
    | _ => none
  | _ => none
def strE : E → Option Str
  | .str x => some x
  | _ => none
def refE : E → Option Nat
  | .ref n => some n
  | _ => none
def sDcp (a : Sx E) : Sx E := fun ρ G => (a ρ G).bind fun x G1 => (optR (dctE G1 x) G1).bind fun kvs _ => .ok (.ref G1.length) (G1 ++ [.dct kvs])
def sDget (a k d : Sx E) : Sx E := fun ρ G => (a ρ G).bind fun x G1 => (optR (dctE G1 x) G1).bind fun _ _ => (k ρ G1).bind fun y G2 => (d ρ G2).bind fun z G3 => (optR (dctE G3 x) G3).bind fun kvs _ => (optR (strE y) G3).bind fun s _ => .ok ((kvs.lookup s).getD z) G3
def dropS (kvs : List (Str × E)) (s : Str) : List (Str × E) := kvs.filter fun kv => decide (kv.1 ≠ s)
def sDpop (a k d : Sx E) : Sx E := fun ρ G => (a ρ G).bind fun x G1 => (optR (dctE G1 x) G1).bind fun _ _ => (k ρ G1).bind fun y G2 => (d ρ G2).bind fun z G3 => (optR (dctE G3 x) G3).bind fun kvs _ => (optR (strE y) G3).bind fun s _ => (optR (refE x) G3).bind fun n _ =>
  match kvs.lookup s with
  | some v => .ok v (G3.set n (.dct (dropS kvs s)))
  | none => .ok z G3
def sChain (o1 o2 : COp) (a b c : Sx E) : Sx Bool := fun ρ G => (a ρ G).bind fun x G1 => (b ρ G1).bind fun y G2 => (optR (cmpop o1 x y) G2).bind fun k _ => if k then (c ρ G2).bind fun z G3 => optR (cmpop o2 y z) G3 else .ok false G2
def sTupE (a : Sx E) : Sx E := fun ρ G => (a ρ G).bind fun x G1 => match x with
  | .tup xs => .ok (.tup xs) G1
  | _ => .bad
def minE : E → E → Option E
  | .int i, .int j => some (.int (if j < i then j else i))
  | _, _ => none
def sMin2 (a b : Sx E) : Sx E := fun ρ G => (a ρ G).bind fun x G1 => (b ρ G1).bind fun y G2 => optR (minE x y) G2
def neLE (xs ys : List E) : Option Bool := match E.dats xs, E.dats ys with
  | some ds, some es => if PyData.depth (.list ds) ≤ 64 ∨ PyData.depth (.list es) ≤ 64 then some (!(PyData.eqv (.list ds) (.list es))) else none
  | _, _ => none
def sNeL (a b : Sx LH) : Sx Bool := fun ρ G => (a ρ G).bind fun x G1 => (b ρ G1).bind fun y G2 => (optR (x.get G2) G2).bind fun xs _ => (optR (y.get G2) G2).bind fun ys _ => optR (neLE xs ys) G2
/-! what is walked: the items, the list's place if it stands -/
def sItL (l : Sx LH) : Sx (List E × Option Nat) := fun ρ G => (l ρ G).bind fun x G1 => (optR (x.get G1) G1).bind fun xs _ => .ok (xs, match x with | .tmp _ => none | .pl n => some n) G1
/-- the items of a value -/
def itE (G : Hq) : E → Option (List E × Option Nat)
  | .ref n => (LH.get G (.pl n)).map fun xs => (xs, some n)
  | .tup xs => some (xs, none)
  | .str x => some (signs x, none)
  | _ => none
def sItA (a : Sx E) : Sx (List E × Option Nat) := fun ρ G => (a ρ G).bind fun x G1 => optR (itE G1 x) G1
def rng (lo : Int) (n : Nat) : List E := (List.range n).map fun k => .int (lo + (k : Nat))
def in62 (i : Int) : Bool := decide (-(2 ^ 62) ≤ i ∧ i < 2 ^ 62)
def sItR1 (a : Sx E) : Sx (List E × Option Nat) := fun ρ G => (a ρ G).bind fun x G1 => (optR (intE x) G1).bind fun j _ => if in62 j then .ok (rng 0 j.toNat, none) G1 else .bad
def sItR2 (a b : Sx E) : Sx (List E × Option Nat) := fun ρ G => (a ρ G).bind fun x G1 => (b ρ G1).bind fun y G2 => (optR (intE x) G2).bind fun i _ => (optR (intE y) G2).bind fun j _ => if in62 i && in62 j then .ok (rng i (j - i).toNat, none) G2 else .bad
/-- the list that is walked stands as it stood -/
def stays (st : Option Nat) (xs : List E) (G : Hq) : Prop := match st with
  | none => True
  | some n => LH.get G (.pl n) = some xs
mutual
def E.eqb : E → E → Bool
  | .non, .non => true
  | .bl a, .bl b => a == b
  | .int a, .int b => decide (a = b)
  | .str a, .str b => decide (a = b)
  | .tup a, .tup b => E.eqbs a b
  | .ref a, .ref b => a == b
  | _, _ => false
def E.eqbs : List E → List E → Bool
  | [], [] => true
  | a :: r, b :: t => E.eqb a b && E.eqbs r t
  | _, _ => false
end
def staysB (st : Option Nat) (xs : List E) (G : Hq) : Bool := match st with
  | none => true
  | some n => match LH.get G (.pl n) with
    | some ys => E.eqbs ys xs
    | none => false
def setAll : List Nm → List E → Ro → Option Ro
  | [], [], ρ => some ρ
  | n :: ns, e :: es, ρ => setAll ns es (ρ.set n.i (some e))
  | _, _, _ => none
def Tg.set : Tg → E → Ro → Option Ro
  | .name n, v, ρ => some (ρ.set n.i (some v))
  | .tup ns _ _, .tup xs, ρ => setAll ns xs ρ
  | _, _, _ => none
def wipeR (ρ : Ro) : List Nat → Ro
  | [] => ρ
  | v :: vs => (wipeR ρ vs).set v none
def lcS (st : Option Nat) (all : List E) (tg : Tg) (c : Sx Bool) (e : Sx E) (ρ : Ro) : List E → List E → Hq → R (List E)
  | [], acc, G => if staysB st all G then .ok acc G else .bad
  | x :: r, acc, G => if staysB st all G then (optR (tg.set x ρ) G).bind fun ρ1 _ => ((c ρ1 G).nox).bind fun b G1 => if b then ((e ρ1 G1).nox).bind fun y G2 => if acc.length < sizeLine then lcS st all tg c e ρ r (acc ++ [y]) G2 else .bad
      else lcS st all tg c e ρ r acc G1 else .bad
def sLc (it : Sx (List E × Option Nat)) (tg : Tg) (c : Sx Bool) (e : Sx E) (own : List Nat) : Sx LH := fun ρ G => (it ρ G).bind fun xs G1 => (lcS xs.2 xs.1 tg c e (wipeR ρ own) xs.1 [] G1).bind fun ys G2 => .ok (.tmp ys) G2
def sYes : Sx Bool := fun _ G => .ok true G
mutual
/-- an expression's value -/
def Ex.ev (P : Par) : Ex → Sx E
  | .var i _ _ => sVar i
  | .glb j _ _ => sGlb P j
  | .int i _ _ => sC (.int i)
  | .bl b _ _ => sC (.bl b)
  | .non _ _ => sC .non
  | .str x _ _ => sC (.str x)
  | .bin o a b _ => sBin o (a.ev P) (b.ev P)
  | .cmp o a b _ => sBl (sCmp o (a.ev P) (b.ev P))
  | .isN a _ _ _ => sBl (sIsN (a.ev P))
  | .ntN a _ _ _ => sBl (sNtN (a.ev P))
  | .not a _ => sBl (sNot (sAsB (a.ev P)))
  | .and es _ => sBl (es.evAnd P)
  | .or es _ => sBl (es.evOr P)
  | .ifx c a b _ => sIf (c.evT P) (a.ev P) (b.ev P)
  | .tup es _ _ => sTup (es.ev P)
  | .sub a i _ => sSub (a.ev P) (i.ev P)
  | .slice a lo hi _ _ => sSlice (a.ev P) (lo.ev P) (hi.ev P)
  | .call f _ es _ _ => sCall P f (es.ev P)
  | .bi1 b a _ _ => sBi1 b (a.ev P)
  | .biL b l _ _ => sBiL b (l.ev P)
  | .isi a t _ _ _ => sIsi t (a.ev P)
  | .inS a b _ => sBl (sInS (a.ev P) (b.ev P))
  | .sidx a b _ _ => sSidx (a.ev P) (b.ev P)
  | .join a l _ _ => sJoin (a.ev P) (l.ev P)
  | .subL l i _ => sSubL (l.ev P) (i.ev P)
  | .new l => sNew (l.ev P)
  | .dct ks es _ => sDct (ks.map (·.1)) (es.ev P)
  | .lenSet a _ _ _ _ => sLenSet (a.ev P)
  | .neL a b _ => sBl (sNeL (a.ev P) (b.ev P))
  | .refd g _ e _ _ _ _ => sRefd P g (e.ev P)
  | .attr a f _ => sAttr P (a.ev P) f
  | .meth a m es _ _ => sMeth P (a.ev P) m (es.ev P)
  | .make c es _ _ => sMake P c (es.ev P)
  | .dct0 _ => sDct0
  | .dcp a _ _ => sDcp (a.ev P)
  | .dget a k d _ _ => sDget (a.ev P) (k.ev P) (d.ev P)
  | .dpop a k d _ _ => sDpop (a.ev P) (k.ev P) (d.ev P)
  | .chain o1 o2 a b c _ => sBl (sChain o1 o2 (a.ev P) (b.ev P) (c.ev P))
  | .tupE a _ _ => sTupE (a.ev P)
  | .min2 a b _ _ => sMin2 (a.ev P) (b.ev P)
/-- an expression as a test -/
def Ex.evT (P : Par) : Ex → Sx Bool
  | .cmp o a b _ => sCmp o (a.ev P) (b.ev P)
  | .isN a _ _ _ => sIsN (a.ev P)
  | .ntN a _ _ _ => sNtN (a.ev P)
  | .not a _ => sNot (a.evT P)
  | .and es _ => es.evTAnd P
  | .or es _ => es.evTOr P
  | .var i _ _ => sTru (sVar i)
  | .bl b _ _ => sTru (sC (.bl b))
  | .sub a i _ => sTru (sSub (a.ev P) (i.ev P))
  | .call f _ es _ _ => sTru (sCall P f (es.ev P))
  | .biL b l _ _ => sTru (sBiL b (l.ev P))
  | .isi a t _ _ _ => sTru (sIsi t (a.ev P))
  | .refd g _ e _ _ _ _ => sTru (sRefd P g (e.ev P))
  | .inS a b _ => sInS (a.ev P) (b.ev P)
  | .neL a b _ => sNeL (a.ev P) (b.ev P)
  | .chain o1 o2 a b c _ => sChain o1 o2 (a.ev P) (b.ev P) (c.ev P)
  | _ => fun _ _ => .bad
def Exs.ev (P : Par) : Exs → Sx (List E)
  | .nil => sNil
  | .cons e r => sCons (e.ev P) (r.ev P)
/-- a and b and .. as a value of bools -/
def Exs.evAnd (P : Par) : Exs → Sx Bool
  | .nil => fun _ _ => .bad
  | .cons e .nil => sAsB (e.ev P)
  | .cons e r => sAnd (sAsB (e.ev P)) (r.evAnd P)
def Exs.evOr (P : Par) : Exs → Sx Bool
  | .nil => fun _ _ => .bad
  | .cons e .nil => sAsB (e.ev P)
  | .cons e r => sOr (sAsB (e.ev P)) (r.evOr P)
/-- .. as a test -/
def Exs.evTAnd (P : Par) : Exs → Sx Bool
  | .nil => fun _ _ => .bad
  | .cons e .nil => e.evT P
  | .cons e r => sAnd (e.evT P) (r.evTAnd P)
def Exs.evTOr (P : Par) : Exs → Sx Bool
  | .nil => fun _ _ => .bad
  | .cons e .nil => e.evT P
  | .cons e r => sOr (e.evT P) (r.evTOr P)
def Ox.ev (P : Par) : Ox → Sx (Option Int)
  | .none => sOnone
  | .some e => sOsome (e.ev P)
/-- a comprehension's test -/
def Ox.evT (P : Par) : Ox → Sx Bool
  | .none => sYes
  | .some e => e.evT P
def Lx.ev (P : Par) : Lx → Sx LH
  | .ofE e => sOfE (e.ev P)
  | .disp es _ => sDisp (es.ev P)
  | .cat a b _ => sCat (a.ev P) (b.ev P)
  | .listS a _ _ => sListS (a.ev P)
  | .sortS a _ _ => sSortS (a.ev P)
  | .listT a _ _ => sListT (a.ev P)
  | .lc e t it c _ own _ => sLc (it.ev P) t (c.evT P) (e.ev P) (own.map (·.2))
def It.ev (P : Par) : It → Sx (List E × Option Nat)
  | .l l => sItL (l.ev P)
  | .a e => sItA (e.ev P)
  | .r1 a _ _ => sItR1 (a.ev P)
  | .r2 a b _ _ => sItR2 (a.ev P) (b.ev P)
end
/-! ### statements -/
abbrev Ss := Ro → Hq → RS
def R.st {α : Type} (r : R α) (ρ : Ro) (f : α → Hq → RS) : RS := match r with
  | .ok a G => f a G
  | .ex c G => .ex c ρ G
  | .bad => .bad
@[simp] theorem R.st_ok {α : Type} (a : α) (G : Hq) (ρ : Ro) (f : α → Hq → RS) : (R.ok a G).st ρ f = f a G := rfl
@[simp] theorem R.st_ex {α : Type} (c : Nat) (G : Hq) (ρ : Ro) (f : α → Hq → RS) : (R.ex c G : R α).st ρ f = .ex c ρ G := rfl
@[simp] theorem R.st_bad {α : Type} (ρ : Ro) (f : α → Hq → RS) : (R.bad : R α).st ρ f = .bad := rfl
/-- what follows -/
def RS.seq (r : RS) (f : Ro → Hq → RS) : RS := match r with
  | .nx ρ G => f ρ G
  | r => r
@[simp] theorem RS.seq_nx (ρ : Ro) (G : Hq) (f : Ro → Hq → RS) : (RS.nx ρ G).seq f = f ρ G := rfl
@[simp] theorem RS.seq_rt (v : E) (G : Hq) (f : Ro → Hq → RS) : (RS.rt v G).seq f = .rt v G := rfl
@[simp] theorem RS.seq_ex (c : Nat) (ρ : Ro) (G : Hq) (f : Ro → Hq → RS) : (RS.ex c ρ G).seq f = .ex c ρ G := rfl
@[simp] theorem RS.seq_bk (ρ : Ro) (G : Hq) (f : Ro → Hq → RS) : (RS.bk ρ G).seq f = .bk ρ G := rfl
@[simp] theorem RS.seq_ct (ρ : Ro) (G : Hq) (f : Ro → Hq → RS) : (RS.ct ρ G).seq f = .ct ρ G := rfl
@[simp] theorem RS.seq_bad (f : Ro → Hq → RS) : RS.bad.seq f = .bad := rfl
def qAsg (t : Tg) (e : Sx E) : Ss := fun ρ G => (e ρ G).st ρ fun v G1 => match t.set v ρ with
  | some ρ1 => .nx ρ1 G1
  | none => .bad
def qPar (i j : Nat) (a b : Sx E) : Ss := fun ρ G => (a ρ G).st ρ fun v G1 => (b ρ G1).st ρ fun w G2 => .nx ((ρ.set i (some v)).set j (some w)) G2
def augop : BOp → E → E → Option E
  | .add, .int i, .int j => some (.int (i + j))
  | .add, .str x, .str y => if x.length + y.length ≤ sizeLine then some (.str (x ++ y)) else none
  | .sub, .int i, .int j => some (.int (i - j))
  | .mul, .int i, .int j => if mulOk i j then some (.int (i * j)) else none
  | .fdiv, .int i, .int j => if 0 < j ∧ j < 1073741824 then some (.int (i / j)) else none
  | .mod, .int i, .int j => if 0 < j then some (.int (i % j)) else none
  | _, _, _ => none
def qAug (o : BOp) (i : Nat) (e : Sx E) : Ss := fun ρ G => match ρ[i]? with
  | some (some x) => (e ρ G).st ρ fun y G1 => match augop o x y with
    | some z => .nx (ρ.set i (some z)) G1
    | none => .bad
  | _ => .bad
def putS (kvs : List (Str × E)) (k : Str) (v : E) : List (Str × E) :=
  if (kvs.any fun kv => decide (kv.1 = k)) = true then kvs.map (fun kv => if kv.1 = k then (kv.1, v) else kv) else kvs ++ [(k, v)]
def qSetD (o k e : Sx E) : Ss := fun ρ G => (e ρ G).st ρ fun v G1 => (o ρ G1).st ρ fun x G2 => (k ρ G2).st ρ fun y G3 => match x, y with
  | .ref n, .str s => (match G3[n]? with
    | some (.dct kvs) => if kvs.length < sizeLine then .nx ρ (G3.set n (.dct (putS kvs s v))) else .bad
    | _ => .bad)
  | _, _ => .bad
def qSetI (o k e : Sx E) : Ss := fun ρ G => (e ρ G).st ρ fun v G1 => (o ρ G1).st ρ fun x G2 => (k ρ G2).st ρ fun y G3 => match x, y with
  | .ref n, .int i => (match G3[n]? with
    | some (.lst xs) => (match ixN xs.length i with
      | some j => .nx ρ (G3.set n (.lst (xs.set j v)))
      | none => .bad)
    | _ => .bad)
  | _, _ => .bad
/-- an instance's fields with one set -/
def putA : Str → E → List (Str × E) → List (Str × E)
  | f, v, [] => [(f, v)]
  | f, v, (g, x) :: r => if g = f then (g, v) :: r else (g, x) :: putA f v r
/-- a store to an attribute -/
def setAtt (P : Par) (x : E) (f : Str) (v : E) (G : Hq) : Option Hq := match x with
  | .ref n => match G[n]? with
    | some (.ins c fs) => if P.av c f && decide (fs.length < 1000) then some (G.set n (.ins c (putA f v fs))) else none
    | _ => none
  | _ => none
def qSetA (P : Par) (o : Sx E) (f : Str) (e : Sx E) : Ss := fun ρ G => (e ρ G).st ρ fun v G1 => (o ρ G1).st ρ fun x G2 => match setAtt P x f v G2 with
  | some G3 => .nx ρ G3
  | none => .bad
def clsE (G : Hq) : E → Option Str
  | .ref n => match G[n]? with
    | some (.ins c _) => some c
    | _ => none
  | _ => none
def qAugA (P : Par) (o : BOp) (a : Sx E) (f : Str) (e : Sx E) : Ss := fun ρ G => (a ρ G).st ρ fun x G1 => (optR (attrE P G1 f x) G1).st ρ fun u _ => (e ρ G1).st ρ fun y G2 => (optR (augop o u y) G2).st ρ fun z _ => if clsE G1 x = clsE G2 x then (match setAtt P x f z G2 with
  | some G3 => .nx ρ G3
  | none => .bad) else .bad
def qParA (P : Par) (o1 : Sx E) (f1 : Str) (o2 : Sx E) (f2 : Str) (e1 e2 : Sx E) : Ss := fun ρ G => (e1 ρ G).st ρ fun v G1 => (e2 ρ G1).st ρ fun w G2 => (o1 ρ G2).st ρ fun x G3 => match setAtt P x f1 v G3 with
  | some G4 => (o2 ρ G4).st ρ fun y G5 => (match setAtt P y f2 w G5 with
    | some G6 => .nx ρ G6
    | none => .bad)
  | none => .bad
/-- try: b except g: if i o j: return v -/
def qTri (P : Par) (b : Ss) (g : Nat) (o : COp) (i j : Nat) (v : Bool) : Ss := fun ρ G => match b ρ G with
  | .ex c ρ2 G2 => if P.tf g c then (match ρ2[i]?, ρ2[j]? with
    | some (some x), some (some y) => (match cmpop o x y with
      | some true => .rt (.bl v) G2
      | some false => .nx ρ2 G2
      | none => .bad)
    | _, _ => .bad) else .bad
  | r => r
def qExpr (e : Sx E) : Ss := fun ρ G => (e ρ G).st ρ fun _ G1 => .nx ρ G1
def qApp (o e : Sx E) : Ss := fun ρ G => (o ρ G).st ρ fun x G1 => match x with
  | .ref n => if (LH.get G1 (.pl n)).isSome then ((e ρ G1).st ρ fun v G2 => match G2[n]? with
    | some (.lst xs) => if xs.length < sizeLine then .nx ρ (G2.set n (.lst (xs ++ [v]))) else .bad
    | _ => .bad) else .bad
  | _ => .bad
def qIf (c : Sx Bool) (a b : Ss) : Ss := fun ρ G => (c ρ G).st ρ fun x G1 => if x then a ρ G1 else b ρ G1
def forS (st : Option Nat) (all : List E) (tg : Tg) (b : Ss) : List E → Ro → Hq → RS
  | [], ρ, G => if staysB st all G then .nx ρ G else .bad
  | x :: r, ρ, G => if staysB st all G then (match tg.set x ρ with
    | some ρ1 => (match b ρ1 G with
      | .nx ρ2 G2 => forS st all tg b r ρ2 G2
      | .ct ρ2 G2 => forS st all tg b r ρ2 G2
      | .bk ρ2 G2 => .nx ρ2 G2
      | .rt v G2 => .rt v G2
      | .ex c ρ2 G2 => .ex c ρ2 G2
      | .bad => .bad)
    | none => .bad) else .bad
def qFor (tg : Tg) (it : Sx (List E × Option Nat)) (b : Ss) : Ss := fun ρ G => (it ρ G).st ρ fun xs G1 => forS xs.2 xs.1 tg b xs.1 ρ G1
def whilS (c : Sx Bool) (b : Ss) : Nat → Ro → Hq → RS
  | 0, _, _ => .bad
  | n + 1, ρ, G => (c ρ G).st ρ fun x G1 => if x then (match b ρ G1 with
      | .nx ρ2 G2 => whilS c b n ρ2 G2
      | .ct ρ2 G2 => whilS c b n ρ2 G2
      | .bk ρ2 G2 => .nx ρ2 G2
      | .rt v G2 => .rt v G2
      | .ex c ρ2 G2 => .ex c ρ2 G2
      | .bad => .bad) else .nx ρ G1
def qRet (e : Sx E) : Ss := fun ρ G => (e ρ G).st ρ fun v G1 => .rt v G1
mutual
def Stm.ev (P : Par) : Stm → Ss
  | .asg t e _ => qAsg t (e.ev P)
  | .asgL n l _ => qAsg (.name n) (sNew (l.ev P))
  | .par a b e f _ _ _ _ _ => qPar a.i b.i (e.ev P) (f.ev P)
  | .aug o n e _ => qAug o n.i (e.ev P)
  | .setD o k e _ _ => qSetD (o.ev P) (k.ev P) (e.ev P)
  | .setI o k e _ _ => qSetI (o.ev P) (k.ev P) (e.ev P)
  | .setA o f e _ _ => qSetA P (o.ev P) f (e.ev P)
  | .augA o a f e _ _ => qAugA P o (a.ev P) f (e.ev P)
  | .parA o1 f1 o2 f2 e1 e2 _ _ _ _ _ _ _ => qParA P (o1.ev P) f1 (o2.ev P) f2 (e1.ev P) (e2.ev P)
  | .tri b g _ o i _ _ j _ _ _ v _ _ _ _ _ _ _ => qTri P (b.ev P) g o i j v
  | .expr e _ => qExpr (e.ev P)
  | .app o e _ _ _ => qApp (o.ev P) (e.ev P)
  | .ifs c a b _ => qIf (c.evT P) (a.ev P) (b.ev P)
  | .forr t it b _ => qFor t (it.ev P) (b.ev P)
  | .whil c b _ => whilS (c.evT P) (b.ev P) P.wf
  | .ret e _ => qRet (e.ev P)
  | .retN _ => fun _ G => .rt .non G
  | .rais c _ _ _ _ _ _ _ => fun ρ G => .ex c ρ G
  | .pas _ => fun ρ G => .nx ρ G
  | .brk _ => fun ρ G => .bk ρ G
  | .cont _ => fun ρ G => .ct ρ G
def Stms.ev (P : Par) : Stms → Ss
  | .nil => fun ρ G => .nx ρ G
  | .cons s r => fun ρ G => (s.ev P ρ G).seq (r.ev P)
end
/-! ### functions -/
structure Fn where
  np : Nat
  ns : Nat
  pure : Bool
  body : Stms
def kvsEqb : List (Str × E) → List (Str × E) → Bool
  | [], [] => true
  | a :: r, b :: t => decide (a.1 = b.1) && E.eqb a.2 b.2 && kvsEqb r t
  | _, _ => false
def Ob.eqb : Ob → Ob → Bool
  | .lst a, .lst b => E.eqbs a b
  | .rol a, .rol b => E.eqbs a b
  | .dct a, .dct b => kvsEqb a b
  | .ins c a, .ins d b => decide (c = d) && kvsEqb a b
  | _, _ => false
def hqEqb : Hq → Hq → Bool
  | [], [] => true
  | a :: r, b :: t => Ob.eqb a b && hqEqb r t
  | _, _ => false
/-- what a call leaves: of a pure one, nothing new -/
def retP (pure : Bool) (G : Hq) (v : E) (G' : Hq) : R E := if pure then (if hqEqb (G'.take G.length) G && v.dat.isSome then .ok v G else .bad) else .ok v G'
def endR (pure : Bool) (G : Hq) : RS → R E
  | .nx _ G' => retP pure G .non G'
  | .rt v G' => retP pure G v G'
  | .ex c _ G' => .ex c G'
  | _ => .bad
/-- a program's tables -/
structure Tb where
  T : Nat → Option Fn
  gl : Nat → Option E
  rf : Nat → Nat → Bool
  wf : Nat
  av : Str → Str → Bool
  mv : Str → Str → Option (Nat × Nat)
  ci : Str → Option (Nat × Nat)
  tf : Nat → Nat → Bool
def Tb.par (B : Tb) (cl : Nat → List E → Hq → R E) : Par := ⟨cl, B.gl, B.rf, B.wf, B.av, B.mv, B.ci, B.tf⟩
def callF (B : Tb) : Nat → Nat → List E → Hq → R E
  | 0, _, _, _ => .bad
  | k + 1, f, es, G => match B.T f with
    | some fn => if es.length = fn.np then endR fn.pure G (fn.body.ev (B.par (callF B k)) (es.map some ++ List.replicate (fn.ns - fn.np) none) G) else .bad
    | none => .bad

/-! ### equality -/
mutual
theorem E.eqb_eq : ∀ {a b : E}, E.eqb a b = true → a = b
  | .non, b, h => by cases b <;> first | rfl | (simp [E.eqb] at h)
  | .bl x, b, h => by cases b <;> first | (simp [E.eqb] at h; subst h; rfl) | (simp [E.eqb] at h)
  | .int x, b, h => by cases b <;> first | (simp [E.eqb] at h; subst h; rfl) | (simp [E.eqb] at h)
  | .str x, b, h => by cases b <;> first | (simp [E.eqb] at h; subst h; rfl) | (simp [E.eqb] at h)
  | .tup x, b, h => by
    cases b with
    | tup y => rw [E.eqbs_eq (show E.eqbs x y = true by simpa [E.eqb] using h)]
    | _ => simp [E.eqb] at h
  | .ref x, b, h => by cases b <;> first | (simp [E.eqb] at h; subst h; rfl) | (simp [E.eqb] at h)
theorem E.eqbs_eq : ∀ {a b : List E}, E.eqbs a b = true → a = b
  | [], b, h => by cases b <;> first | rfl | (simp [E.eqbs] at h)
  | x :: r, b, h => by
    cases b with
    | nil => simp [E.eqbs] at h
    | cons y t =>
      have h2 : E.eqb x y = true ∧ E.eqbs r t = true := by simpa [E.eqbs] using h
      rw [E.eqb_eq h2.1, E.eqbs_eq h2.2]
end
mutual
theorem E.eqb_refl : ∀ a : E, E.eqb a a = true
  | .non => rfl
  | .bl x => by simp [E.eqb]
  | .int x => by simp [E.eqb]
  | .str x => by simp [E.eqb]
  | .tup x => by unfold E.eqb; exact E.eqbs_refl x
  | .ref x => by simp [E.eqb]
theorem E.eqbs_refl : ∀ a : List E, E.eqbs a a = true
  | [] => rfl
  | x :: r => by unfold E.eqbs; rw [E.eqb_refl x, E.eqbs_refl r]; rfl
end
theorem kvsEqb_eq : ∀ {a b : List (Str × E)}, kvsEqb a b = true → a = b
  | [], b, h => by cases b <;> first | rfl | (simp [kvsEqb] at h)
  | x :: r, b, h => by
    cases b with
    | nil => simp [kvsEqb] at h
    | cons y t =>
      have h2 : (x.1 = y.1 ∧ E.eqb x.2 y.2 = true) ∧ kvsEqb r t = true := by simpa [kvsEqb] using h
      rw [kvsEqb_eq h2.2, Prod.ext h2.1.1 (E.eqb_eq h2.1.2)]
theorem kvsEqb_refl : ∀ a : List (Str × E), kvsEqb a a = true
  | [] => rfl
  | x :: r => by unfold kvsEqb; rw [E.eqb_refl, kvsEqb_refl r]; simp
theorem Ob.eqb_eq {a b : Ob} (h : Ob.eqb a b = true) : a = b := by
  cases a <;> cases b <;> first
    | (simp only [Ob.eqb] at h; rw [E.eqbs_eq h])
    | (simp only [Ob.eqb] at h; rw [kvsEqb_eq h])
    | (simp only [Ob.eqb, Bool.and_eq_true, decide_eq_true_eq] at h; rw [h.1, kvsEqb_eq h.2])
    | (simp [Ob.eqb] at h)
theorem Ob.eqb_refl (a : Ob) : Ob.eqb a a = true := by
  cases a <;> simp only [Ob.eqb, E.eqbs_refl, kvsEqb_refl, decide_true, Bool.and_self]
theorem hqEqb_eq : ∀ {a b : Hq}, hqEqb a b = true → a = b
  | [], b, h => by cases b <;> first | rfl | (simp [hqEqb] at h)
  | x :: r, b, h => by
    cases b with
    | nil => simp [hqEqb] at h
    | cons y t =>
      have h2 : Ob.eqb x y = true ∧ hqEqb r t = true := by simpa [hqEqb] using h
      rw [hqEqb_eq h2.2, Ob.eqb_eq h2.1]
theorem hqEqb_refl : ∀ a : Hq, hqEqb a a = true
  | [] => rfl
  | x :: r => by unfold hqEqb; rw [Ob.eqb_refl, hqEqb_refl r]; rfl
theorem staysB_of {st : Option Nat} {xs : List E} {G : Hq} (h : staysB st xs G = true) : stays st xs G := by
  cases st with
  | none => exact True.intro
  | some n =>
    simp only [staysB] at h
    cases q : LH.get G (.pl n) with
    | none => rw [q] at h; cases h
    | some ys => rw [q] at h; rw [stays, q, E.eqbs_eq h]
theorem retP_app {G J : Hq} {v : E} (h : v.dat.isSome = true) : retP true G v (G ++ J) = .ok v G := by
  unfold retP
  rw [if_pos rfl, List.take_left, hqEqb_refl, h]
  rfl
theorem retP_same {G : Hq} {v : E} (h : v.dat.isSome = true) : retP true G v G = .ok v G := by
  have := retP_app (G := G) (J := []) h
  rwa [List.append_nil] at this
end Lt
end
section
set_option Elab.async false
set_option linter.all false
set_option maxRecDepth 100000
/-! Lt: what a value, a heap of the small language stands for; how its meaning is carried over to the hand layer's readings. -/
namespace Lt
open PySem PySem.Spec PyProof.Rows L2

abbrev Mp := Nat → Option Addr
/-- a tuple: tracked, or one of the module's own -/
def TupAt (K : PySem.W.Frag) (H : Hp) (a : Addr) (xs : List V) : Prop := H a = some (.tup xs) ∨
    ∃ (o : Obj) (its : Array Value) (n : Nat), K.lookup a = some o ∧ o.cls = .type "tuple" ∧ o.data = .seq its n ∧ its.size ≤ sizeLine ∧ Vals xs its.toList
theorem TupAt.sq {K : PySem.W.Frag} {H : Hp} {a : Addr} {xs : List V} (h : TupAt K H a xs) : SqT K H a xs := by
  rcases h with h | h
  · exact .inl (.inl h)
  · exact .inr h
mutual
inductive RV (K : PySem.W.Frag) (m : Mp) (H : Hp) : E → V → Prop
  | non : RV K m H .non .non
  | bl (b : Bool) : RV K m H (.bl b) (.bl b)
  | int (i : Int) : RV K m H (.int i) (.int i)
  | str (x : Str) : RV K m H (.str x) (.str x)
  | tup {es : List E} {a : Addr} {vs : List V} : TupAt K H a vs → RVs K m H es vs → RV K m H (.tup es) (.ref a)
  | ref {n : Nat} {a : Addr} : m n = some a → RV K m H (.ref n) (.ref a)
inductive RVs (K : PySem.W.Frag) (m : Mp) (H : Hp) : List E → List V → Prop
  | nil : RVs K m H [] []
  | cons {e : E} {es : List E} {v : V} {vs : List V} : RV K m H e v → RVs K m H es vs → RVs K m H (e :: es) (v :: vs)
end
inductive RKs (K : PySem.W.Frag) (m : Mp) (H : Hp) : List (Str × E) → List (Key × V) → Prop
  | nil : RKs K m H [] []
  | cons {x : Str} {e : E} {es : List (Str × E)} {v : V} {vs : List (Key × V)} : RV K m H e v → RKs K m H es vs → RKs K m H ((x, e) :: es) ((.inr x, v) :: vs)
/-- an instance's fields -/
inductive RFs (K : PySem.W.Frag) (m : Mp) (H : Hp) : List (Str × E) → List (Str × V) → Prop
  | nil : RFs K m H [] []
  | cons {x : Str} {e : E} {es : List (Str × E)} {v : V} {vs : List (Str × V)} : RV K m H e v → RFs K m H es vs → RFs K m H ((x, e) :: es) ((x, v) :: vs)
/-- an object of the heap -/
def ObR (K : PySem.W.Frag) (m : Mp) (H : Hp) (a : Addr) : Ob → Prop
  | .lst es => ∃ vs, H a = some (.lst vs) ∧ RVs K m H es vs
  | .rol es => ∃ vs, Rd H a (.lst vs) ∧ RVs K m H es vs
  | .dct kvs => ∃ vs, H a = some (.dK vs) ∧ RKs K m H kvs vs
  | .ins c fs => ∃ dx vs, H a = some (.ins (He.ga K c) dx vs) ∧ RFs K m H fs vs
/-- the world: what the module has written, the tables of code objects, the exceptions' classes -/
structure Wd where
  K : PySem.W.Frag
  T : List (Addr × Str)
  xc : Nat → Value
/-- .. apart from the module's own objects -/
structure Wq where
  T : List (Addr × Str)
  xc : Nat → Value
abbrev dW (X : Cx) (q : Wq) : Wd := ⟨X.K, q.T, q.xc⟩
structure MtG (D : Wd) (m : Mp) (H : Hp) (G : Hq) : Prop where
  dom : ∀ n, n < G.length → ∃ a, m n = some a
  cod : ∀ n a, m n = some a → n < G.length
  inj : ∀ n k a, m n = some a → m k = some a → n = k
  obj : ∀ (n : Nat) (o : Ob) (a : Addr), G[n]? = some o → m n = some a → ObR D.K m H a o
  tab : LamX.Tabs D.T H
/-- nothing that is tracked, or a table -/
def NT (H : Hp) (a : Addr) : Prop := H a = none ∨ ∃ ps, H a = some (.tbl ps)
theorem NT.no {H : Hp} {a : Addr} {o : HO} (h : NT H a) (e : H a = some o) (ht : ∀ ps, o ≠ .tbl ps) : False := by
  rcases h with h | ⟨ps, h⟩
  · rw [h] at e; cases e
  · rw [h] at e; cases e; exact ht ps rfl
/-- a later state -/
structure Ext (m : Mp) (H : Hp) (m' : Mp) (H' : Hp) : Prop where
  mono : ∀ n a, m n = some a → m' n = some a
  stay : ∀ a o, H a = some o → (∀ ps, o ≠ .tbl ps) → (∀ n, m n ≠ some a) → H' a = some o
  tups : ∀ a xs, H a = some (.tup xs) → H' a = some (.tup xs)
  new : ∀ n a, m' n = some a → m n = some a ∨ NT H a
  there : ∀ a, NT H' a → NT H a
theorem Ext.refl (m : Mp) (H : Hp) : Ext m H m H := ⟨fun _ _ h => h, fun _ _ h _ _ => h, fun _ _ h => h, fun _ _ h => .inl h, fun _ h => h⟩
theorem Ext.trans {m m1 m2 : Mp} {H H1 H2 : Hp} (a : Ext m H m1 H1) (b : Ext m1 H1 m2 H2) : Ext m H m2 H2 where
  mono n x h := b.mono n x (a.mono n x h)
  stay x o h ht hn := b.stay x o (a.stay x o h ht hn) ht fun n q => by
    rcases a.new n x q with q | q
    · exact hn n q
    · exact q.no h ht
  tups x xs h := b.tups x xs (a.tups x xs h)
  new n x h := by
    rcases b.new n x h with q | q
    · exact a.new n x q
    · exact .inr (a.there x q)
  there x h := a.there x (b.there x h)
section
variable {K : PySem.W.Frag} {m m' : Mp} {H H' : Hp}
theorem TupAt.ext {a : Addr} {xs : List V} (h : TupAt K H a xs) (e : Ext m H m' H') : TupAt K H' a xs := by
  rcases h with h | h
  · exact .inl (e.tups _ _ h)
  · exact .inr h
mutual
theorem RV.tr (hm : ∀ n a, m n = some a → m' n = some a) (ht : ∀ a xs, H a = some (.tup xs) → H' a = some (.tup xs)) : ∀ {x : E} {v : V}, RV K m H x v → RV K m' H' x v
  | _, _, .non => .non
  | _, _, .bl b => .bl b
  | _, _, .int i => .int i
  | _, _, .str x => .str x
  | _, _, .tup h r => .tup (h.imp (ht _ _) fun z => z) (RVs.tr hm ht r)
  | _, _, .ref h => .ref (hm _ _ h)
theorem RVs.tr (hm : ∀ n a, m n = some a → m' n = some a) (ht : ∀ a xs, H a = some (.tup xs) → H' a = some (.tup xs)) : ∀ {x : List E} {v : List V}, RVs K m H x v → RVs K m' H' x v
  | _, _, .nil => .nil
  | _, _, .cons h r => .cons (RV.tr hm ht h) (RVs.tr hm ht r)
end
theorem RKs.tr (hm : ∀ n a, m n = some a → m' n = some a) (ht : ∀ a xs, H a = some (.tup xs) → H' a = some (.tup xs)) : ∀ {x : List (Str × E)} {v : List (Key × V)}, RKs K m H x v → RKs K m' H' x v
  | _, _, .nil => .nil
  | _, _, .cons h r => .cons (h.tr hm ht) (RKs.tr hm ht r)
theorem RFs.tr (hm : ∀ n a, m n = some a → m' n = some a) (ht : ∀ a xs, H a = some (.tup xs) → H' a = some (.tup xs)) : ∀ {x : List (Str × E)} {v : List (Str × V)}, RFs K m H x v → RFs K m' H' x v
  | _, _, .nil => .nil
  | _, _, .cons h r => .cons (h.tr hm ht) (RFs.tr hm ht r)
theorem RV.ext (e : Ext m H m' H') {x : E} {v : V} (r : RV K m H x v) : RV K m' H' x v := r.tr e.mono e.tups
theorem RVs.ext (e : Ext m H m' H') {x : List E} {v : List V} (r : RVs K m H x v) : RVs K m' H' x v := r.tr e.mono e.tups
theorem RKs.ext (e : Ext m H m' H') {x : List (Str × E)} {v : List (Key × V)} (r : RKs K m H x v) : RKs K m' H' x v := r.tr e.mono e.tups
theorem RFs.ext (e : Ext m H m' H') {x : List (Str × E)} {v : List (Str × V)} (r : RFs K m H x v) : RFs K m' H' x v := r.tr e.mono e.tups
theorem ObR.tr {a : Addr} {o : Ob} (hm : ∀ n a, m n = some a → m' n = some a) (ht : ∀ a xs, H a = some (.tup xs) → H' a = some (.tup xs)) (ha : H' a = H a) (r : ObR K m H a o) : ObR K m' H' a o := by
  cases o with
  | lst es => obtain ⟨vs, q, r⟩ := r; exact ⟨vs, ha.trans q, r.tr hm ht⟩
  | rol es => obtain ⟨vs, q, r⟩ := r; exact ⟨vs, by unfold Rd; rw [ha]; exact q, r.tr hm ht⟩
  | dct kvs => obtain ⟨vs, q, r⟩ := r; exact ⟨vs, ha.trans q, r.tr hm ht⟩
  | ins c fs => obtain ⟨dx, vs, q, r⟩ := r; exact ⟨dx, vs, ha.trans q, r.tr hm ht⟩
theorem RVs.length : ∀ {x : List E} {v : List V}, RVs K m H x v → x.length = v.length
  | _, _, .nil => rfl
  | _, _, .cons _ r => by rw [List.length_cons, List.length_cons, r.length]
theorem RVs.append : ∀ {x y : List E} {v w : List V}, RVs K m H x v → RVs K m H y w → RVs K m H (x ++ y) (v ++ w)
  | _, _, _, _, .nil, s => s
  | _, _, _, _, .cons a r, s => .cons a (RVs.append r s)
theorem RVs.get : ∀ {x : List E} {v : List V} {i : Nat} {e : E}, RVs K m H x v → x[i]? = some e → ∃ w, v[i]? = some w ∧ RV K m H e w
  | _, _, i, e, .nil, h => by simp at h
  | _, _, 0, e, .cons a r, h => by
    simp at h; subst h; exact ⟨_, rfl, a⟩
  | _, _, i + 1, e, .cons a r, h => by
    obtain ⟨w, h1, h2⟩ := RVs.get (i := i) r (by simpa using h)
    exact ⟨w, by simpa using h1, h2⟩
theorem RVs.drop : ∀ {x : List E} {v : List V} (n : Nat), RVs K m H x v → RVs K m H (x.drop n) (v.drop n)
  | _, _, 0, r => r
  | _, _, n + 1, .nil => .nil
  | _, _, n + 1, .cons a r => RVs.drop n r
theorem RVs.take : ∀ {x : List E} {v : List V} (n : Nat), RVs K m H x v → RVs K m H (x.take n) (v.take n)
  | _, _, 0, r => .nil
  | _, _, n + 1, .nil => .nil
  | _, _, n + 1, .cons a r => .cons a (RVs.take n r)
theorem atI_len {α β : Type} {xs : List α} {ys : List β} (h : xs.length = ys.length) (i : Int) : ixN xs.length i = ixN ys.length i := by rw [h]
theorem RVs.atI {x : List E} {v : List V} {i : Int} {e : E} (r : RVs K m H x v) (h : atI x i = some e) : ∃ w, L2.atI v i = some w ∧ RV K m H e w := by
  unfold L2.atI at h ⊢
  rw [← r.length]
  cases q : ixN x.length i with
  | none => rw [q] at h; cases h
  | some j =>
    rw [q] at h
    exact r.get h
/- values that hold no reference are data -/
mutual
theorem RV.dp : ∀ {x : E} {v : V} {d : PyData}, RV K m H x v → x.dat = some d → Dp K H v d
  | _, _, _, .non, h => by cases h; exact .non
  | _, _, _, .bl b, h => by cases h; exact .bl b
  | _, _, _, .int i, h => by cases h; exact .int i
  | _, _, _, .str x, h => by cases h; exact .str x
  | _, _, d, .tup (es := es) t r, h => by
    unfold E.dat at h
    cases q : E.dats es with
    | none => rw [q] at h; cases h
    | some ds =>
      rw [q] at h
      cases h
      exact .tup t.sq (RVs.dp r q)
  | _, _, _, .ref _, h => by cases h
theorem RVs.dp : ∀ {x : List E} {v : List V} {ds : List PyData}, RVs K m H x v → E.dats x = some ds → DpAll K H v ds
  | _, _, _, .nil, h => by cases h; exact .nil
  | _, _, _, .cons (e := e) (es := es) a r, h => by
    unfold E.dats at h
    cases q : e.dat with
    | none => rw [q] at h; cases h
    | some d =>
      rw [q] at h
      cases q2 : E.dats es with
      | none => rw [q2] at h; cases h
      | some ds =>
        rw [q2] at h
        cases h
        exact .cons (RV.dp a q) (RVs.dp r q2)
end
mutual
theorem E.dat_plain : ∀ {x : E} {d : PyData}, x.dat = some d → d.plain = true
  | .non, _, h => by cases h; rfl
  | .bl b, _, h => by cases h; rfl
  | .int i, _, h => by cases h; rfl
  | .str x, _, h => by cases h; rfl
  | .tup es, d, h => by
    unfold E.dat at h
    cases q : E.dats es with
    | none => rw [q] at h; cases h
    | some ds =>
      rw [q] at h
      cases h
      unfold PyData.plain
      exact E.dats_plain q
  | .ref _, _, h => by cases h
theorem E.dats_plain : ∀ {x : List E} {ds : List PyData}, E.dats x = some ds → PyData.plainAll ds = true
  | [], _, h => by cases h; rfl
  | e :: es, _, h => by
    unfold E.dats at h
    cases q : e.dat with
    | none => rw [q] at h; cases h
    | some d =>
      rw [q] at h
      cases q2 : E.dats es with
      | none => rw [q2] at h; cases h
      | some ds =>
        rw [q2] at h
        cases h
        unfold PyData.plainAll
        rw [E.dat_plain q, E.dats_plain q2]
        rfl
end
end
/-! ### objects come and change -/
section
variable {D : Wd} {m m' : Mp} {H H' : Hp} {G : Hq}
def isD : HO → Bool
  | .lst _ => true
  | .frz _ _ => true
  | .dK _ => true
  | .ins _ _ _ => true
  | _ => false
theorem ObR.at0 {a : Addr} {o : Ob} (r : ObR D.K m H a o) : ∃ u, H a = some u ∧ isD u = true := by
  cases o with
  | lst es => obtain ⟨vs, q, _⟩ := r; exact ⟨_, q, rfl⟩
  | rol es =>
    obtain ⟨vs, q, _⟩ := r
    rcases q with q | ⟨o, q⟩
    · exact ⟨_, q, rfl⟩
    · exact ⟨_, q, rfl⟩
  | dct kvs => obtain ⟨vs, q, _⟩ := r; exact ⟨_, q, rfl⟩
  | ins c fs => obtain ⟨dx, vs, q, _⟩ := r; exact ⟨_, q, rfl⟩
theorem tabs_upd {T : List (Addr × Str)} {a : Addr} {w u : HO} (t : LamX.Tabs T H) (h : H a = some w) (d : isD w = true) : LamX.Tabs T (upd H a u) := fun p hp => by
  obtain ⟨ps, h1, h2, h3⟩ := t p hp
  have ne : ∀ b o, H b = some o → isD o = false → (upd H a u) b = some o := fun b o q z => by
    rw [upd_ne]
    · exact q
    · rintro rfl
      rw [h] at q; cases q; rw [d] at z; cases z
  refine ⟨ps, ne _ _ h1 rfl, h2, fun pos cv hc => ?_⟩
  obtain ⟨c, e1, e2⟩ := h3 pos cv hc
  exact ⟨c, e1, ne _ _ e2 rfl⟩
theorem MtG.got (M : MtG D m H G) {n : Nat} {a : Addr} (h : m n = some a) : ∃ o, G[n]? = some o ∧ ObR D.K m H a o :=
  ⟨_, List.getElem?_eq_getElem (M.cod n a h), M.obj n _ a (List.getElem?_eq_getElem (M.cod n a h)) h⟩
theorem MtG.ne_none (M : MtG D m H G) {p : Addr} (hp : H p = none) : ∀ n, m n ≠ some p := fun n h => by
  obtain ⟨o, _, r⟩ := M.got h
  obtain ⟨u, e, _⟩ := r.at0
  rw [hp] at e; cases e
def Mp.add (m : Mp) (k : Nat) (a : Addr) : Mp := fun n => if n = k then some a else m n
theorem Mp.add_mono (M : MtG D m H G) {a : Addr} : ∀ n b, m n = some b → (Mp.add m G.length a) n = some b := fun n b h => by
  unfold Mp.add
  rw [if_neg (Nat.ne_of_lt (M.cod n b h))]
  exact h
theorem Mp.add_self {k : Nat} {a : Addr} : (Mp.add m k a) k = some a := if_pos rfl
theorem MtG.add {a : Addr} {o : Ob} (M : MtG D m H G) (hn : ∀ n, m n ≠ some a) (ho : ObR D.K (Mp.add m G.length a) H a o) : MtG D (Mp.add m G.length a) H (G ++ [o]) where
  dom n h := by
    rw [List.length_append] at h
    unfold Mp.add
    by_cases e : n = G.length
    · exact ⟨a, if_pos e⟩
    · rw [if_neg e]
      exact M.dom n (by simp at h; omega)
  cod n b h := by
    rw [List.length_append]
    unfold Mp.add at h
    by_cases e : n = G.length
    · simp; omega
    · rw [if_neg e] at h
      have := M.cod n b h
      simp; omega
  inj n k b h1 h2 := by
    unfold Mp.add at h1 h2
    by_cases e : n = G.length
    · rw [if_pos e] at h1
      cases h1
      by_cases e2 : k = G.length
      · omega
      · rw [if_neg e2] at h2; exact absurd h2 (hn k)
    · rw [if_neg e] at h1
      by_cases e2 : k = G.length
      · rw [if_pos e2] at h2; cases h2; exact absurd h1 (hn n)
      · rw [if_neg e2] at h2; exact M.inj n k b h1 h2
  obj n u b h1 h2 := by
    by_cases e : n = G.length
    · subst e
      rw [List.getElem?_append_right (Nat.le_refl _)] at h1
      simp at h1
      subst h1
      have : b = a := by
        unfold Mp.add at h2
        rw [if_pos rfl] at h2
        injection h2 with e; exact e.symm
      subst this
      exact ho
    · unfold Mp.add at h2
      rw [if_neg e] at h2
      rw [List.getElem?_append_left (M.cod n b h2)] at h1
      exact (M.obj n u b h1 h2).tr (Mp.add_mono M) (fun _ _ z => z) rfl
  tab := M.tab
theorem MtG.put {n : Nat} {a : Addr} {o o' : Ob} {u : HO} (M : MtG D m H G) (hg : G[n]? = some o) (hm : m n = some a) (ho : ObR D.K m (upd H a u) a o') : MtG D m (upd H a u) (G.set n o') where
  dom k h := M.dom k (by simpa using h)
  cod k b h := by
    have := M.cod k b h
    simpa using this
  inj := M.inj
  obj k v b h1 h2 := by
    by_cases e : n = k
    · subst e
      rw [hm] at h2
      cases h2
      rw [List.getElem?_set_self (M.cod n a hm)] at h1
      cases h1
      exact ho
    · rw [List.getElem?_set_ne e] at h1
      have hb : b ≠ a := fun z => e (M.inj n k a hm (by rw [← z]; exact h2))
      obtain ⟨w, e1, e2⟩ := (M.obj n o a hg hm).at0
      refine (M.obj k v b h1 h2).tr (fun _ _ z => z) (fun c xs q => ?_) (upd_ne hb)
      rw [upd_ne]
      · exact q
      · rintro rfl
        rw [q] at e1; cases e1; cases e2
  tab := by
    obtain ⟨w, e1, e2⟩ := (M.obj n o a hg hm).at0
    exact tabs_upd M.tab e1 e2
theorem Ext.put {n : Nat} {a : Addr} {o : Ob} {u : HO} (M : MtG D m H G) (hg : G[n]? = some o) (hm : m n = some a) (hu : ∀ ps, u ≠ .tbl ps) : Ext m H m (upd H a u) where
  mono _ _ h := h
  stay b v h _ hb := by
    rw [upd_ne]
    · exact h
    · rintro rfl; exact hb n hm
  tups b xs q := by
    obtain ⟨w, e1, e2⟩ := (M.obj n o a hg hm).at0
    rw [upd_ne]
    · exact q
    · rintro rfl
      rw [q] at e1; cases e1; cases e2
  new _ _ h := .inl h
  there b h := by
    by_cases e : b = a
    · subst e; exact (NT.no h upd_same hu).elim
    · unfold NT at h; rw [upd_ne e] at h; exact h
/-- an object that the small heap does not know is written -/
theorem MtG.put0 {p : Addr} {w u : HO} (M : MtG D m H G) (hn : ∀ n, m n ≠ some p) (hp : H p = some w) (d : isD w = true) : MtG D m (upd H p u) G where
  dom := M.dom
  cod := M.cod
  inj := M.inj
  obj k v b h1 h2 := by
    refine (M.obj k v b h1 h2).tr (fun _ _ z => z) (fun c xs q => ?_) (upd_ne fun e => hn k (by rw [← e]; exact h2))
    rw [upd_ne]
    · exact q
    · rintro rfl
      rw [q] at hp; cases hp; cases d
  tab := tabs_upd M.tab hp d
end
/-- the slots -/
def MtE (K : PySem.W.Frag) (m : Mp) (H : Hp) (ρ : Ro) (σ : L2.St) : Prop := ρ.length = σ.length ∧ ∀ (i : Nat) (e : E), ρ[i]? = some (some e) → ∃ v, σ[i]? = some (some v) ∧ RV K m H e v
theorem MtE.ext {K : PySem.W.Frag} {m m' : Mp} {H H' : Hp} {ρ : Ro} {σ : L2.St} (h : MtE K m H ρ σ) (e : Ext m H m' H') : MtE K m' H' ρ σ :=
  ⟨h.1, fun i x q => let ⟨v, a, b⟩ := h.2 i x q; ⟨v, a, b.ext e⟩⟩
theorem MtE.set {K : PySem.W.Frag} {m : Mp} {H : Hp} {ρ : Ro} {σ : L2.St} {i : Nat} {e : E} {v : V} (h : MtE K m H ρ σ) (r : RV K m H e v) : MtE K m H (ρ.set i (some e)) (σ.set i (some v)) := by
  refine ⟨by rw [List.length_set, List.length_set, h.1], fun j x q => ?_⟩
  by_cases hj : i = j
  · subst hj
    have hl : i < ρ.length := by
      have := (List.getElem?_eq_some_iff.mp q).1
      simpa using this
    rw [List.getElem?_set_self hl] at q
    have hx : e = x := by simpa using q
    subst hx
    exact ⟨v, by rw [List.getElem?_set_self (by rw [← h.1]; exact hl)], r⟩
  · rw [List.getElem?_set_ne hj] at q ⊢
    exact h.2 j x q

/-! ### ends -/
section
variable (D : Wd) (W : WX) (σ : L2.St)
def Fin {α β : Type} (m : Mp) (H : Hp) (r : R α) (rel : Mp → Hp → α → β → Prop) (Q : β → Hp → Prop) : Prop := match r with
  | .ok v G' => ∀ m' v' H', Ext m H m' H' → MtG D m' H' G' → rel m' H' v v' → Q v' H'
  | .ex c G' => ∀ m' H' d, Ext m H m' H' → MtG D m' H' G' → W (D.xc c) d σ H'
  | .bad => False
end
section
variable {D : Wd} {W : WX} {σ : L2.St} {α β : Type} {m m' : Mp} {H H' : Hp} {r : R α} {rel : Mp → Hp → α → β → Prop} {Q Q' : β → Hp → Prop}
theorem Fin.ext (h : Fin D W σ m H r rel Q) (e : Ext m H m' H') : Fin D W σ m' H' r rel Q := by
  cases r with
  | ok v G => exact fun m2 v2 H2 e2 M r => h m2 v2 H2 (e.trans e2) M r
  | ex c G => exact fun m2 H2 d e2 M => h m2 H2 d (e.trans e2) M
  | bad => exact h
theorem Fin.mono (h : Fin D W σ m H r rel Q) (k : ∀ v H', Q v H' → Q' v H') : Fin D W σ m H r rel Q' := by
  cases r with
  | ok v G => exact fun m2 v2 H2 e2 M r => k _ _ (h m2 v2 H2 e2 M r)
  | ex c G => exact h
  | bad => exact h
theorem Fin.bind {γ δ : Type} {f : α → Hq → R γ} {rel2 : Mp → Hp → γ → δ → Prop} {Q2 : δ → Hp → Prop} {Q : β → Hp → Prop} (h : Fin D W σ m H (r.bind f) rel2 Q2)
    (k : ∀ v G' m' v' H', r = .ok v G' → Ext m H m' H' → MtG D m' H' G' → rel m' H' v v' → Fin D W σ m' H' (f v G') rel2 Q2 → Q v' H') : Fin D W σ m H r rel Q := by
  cases r with
  | ok v G => exact fun m2 v2 H2 e2 M r => k v G m2 v2 H2 rfl e2 M r (Fin.ext (show Fin D W σ m H (f v G) rel2 Q2 from h) e2)
  | ex c G => exact h
  | bad => exact h
end
/-- soundness of a meaning for a reading -/
def Snd (D : Wd) (W : WX) {α β : Type} (s : Sx α) (rel : Mp → Hp → α → β → Prop) (w : L2.St → Hp → (β → Hp → Prop) → Prop) : Prop :=
  ∀ (ρ : Ro) (G : Hq) (σ : L2.St) (H : Hp) (m : Mp) (Q : β → Hp → Prop), MtE D.K m H ρ σ → MtG D m H G → Fin D W σ m H (s ρ G) rel Q → w σ H Q
/-! ### the weakest readings -/
section
variable (X : Cx)
def wE (e : Expr) : TE := fun σ H Q => ∃ t, PE X e t ∧ t σ H Q
def wT (e : Expr) : TT := fun σ H Q => ∃ t, PT X e t ∧ t σ H Q
def wA (es : List Expr) : TA := fun σ H Q => ∃ t, PA X es t ∧ t σ H Q
def wO (e : Option Expr) : TO := fun σ H Q => ∃ t, PO X e t ∧ t σ H Q
def wOp (f : Value → Value → Sem Value) : R2 := fun x y H Q => ∃ r, OpR X f r ∧ r x y H Q
end
section
variable {X : Cx}
theorem pe_w {e : Expr} : PE X e (wE X e) := ⟨fun pins s σ H Q I ⟨t, h, q⟩ => h.run pins s σ H Q I q⟩
theorem pt_w {e : Expr} : PT X e (wT X e) := ⟨fun pins s σ H Q I ⟨t, h, q⟩ => h.run pins s σ H Q I q⟩
theorem pa_w {es : List Expr} : PA X es (wA X es) := ⟨fun pos pins s σ H Q I ⟨t, h, q⟩ => h.run pos pins s σ H Q I q⟩
theorem po_w {e : Option Expr} : PO X e (wO X e) := ⟨fun pins s σ H Q I ⟨t, h, q⟩ => h.run pins s σ H Q I q⟩
theorem op_w {f : Value → Value → Sem Value} : OpR X f (wOp X f) := fun pins s σ H x y v u Q I rx ry ⟨r, h, q⟩ => h pins s σ H x y v u Q I rx ry q
end
abbrev RB : Mp → Hp → Bool → Bool → Prop := fun _ _ a b => a = b
abbrev RO : Mp → Hp → Option Int → Option Int → Prop := fun _ _ a b => a = b
end Lt
end
section
set_option Elab.async false
set_option linter.all false
set_option maxRecDepth 100000
/-! Lt: soundness of expressions, construct by construct. -/
namespace Lt
open PySem PySem.Spec PyProof.Rows L2

/-- what a body's context gives -/
structure CxG (X : Cx) (W : WX) : Prop where
  calm : X.calm = true
  nd : X.N.Nodup
  tk : Takes X W
  un : X.A.units + 100 < cLine
section
variable {X : Cx} {D : Wd} {q : Wq} {W : WX} {α β γ δ : Type}
abbrev SE (X : Cx) (q : Wq) (W : WX) (s : Sx E) (e : Expr) : Prop := Snd (dW X q) W s (RV X.K) (wE X e)
abbrev ST (X : Cx) (q : Wq) (W : WX) (s : Sx Bool) (e : Expr) : Prop := Snd (dW X q) W s RB (wT X e)
abbrev SA (X : Cx) (q : Wq) (W : WX) (s : Sx (List E)) (es : List Expr) : Prop := Snd (dW X q) W s (RVs X.K) (wA X es)
abbrev SO (X : Cx) (q : Wq) (W : WX) (s : Sx (Option Int)) (e : Option Expr) : Prop := Snd (dW X q) W s RO (wO X e)
/-- at the end -/
theorem Fin.here {σ : L2.St} {m : Mp} {H : Hp} {v : α} {G : Hq} {rel : Mp → Hp → α → β → Prop} {Q : β → Hp → Prop} {v' : β} (h : Fin D W σ m H (.ok v G) rel Q) (M : MtG D m H G) (r : rel m H v v') : Q v' H :=
  h m v' H (Ext.refl m H) M r
/-- at the end, behind an extension -/
theorem Fin.to {σ : L2.St} {m m' : Mp} {H H' : Hp} {v : α} {G : Hq} {rel : Mp → Hp → α → β → Prop} {Q : β → Hp → Prop} {v' : β} (h : Fin D W σ m H (.ok v G) rel Q) (e : Ext m H m' H') (M : MtG D m' H' G) (r : rel m' H' v v') : Q v' H' :=
  h m' v' H' e M r
/-- a new object that the small heap does not know -/
theorem Ext.junk {m : Mp} {H : Hp} {p : Addr} {o : HO} (h : H p = none) : Ext m H m (upd H p o) where
  mono _ _ h := h
  stay a u q _ _ := by rw [upd_ne (ne_of_none q h)]; exact q
  tups a xs q := by rw [upd_ne (ne_of_none q h)]; exact q
  new _ _ q := .inl q
  there a q := by
    by_cases e : a = p
    · rw [e]; exact .inl h
    · unfold NT at q; rw [upd_ne e] at q; exact q
theorem ObR.junk {K : PySem.W.Frag} {m : Mp} {H : Hp} {p a : Addr} {o : HO} {u : Ob} (h : H p = none) (r : ObR K m H a u) : ObR K m (upd H p o) a u := by
  have e : Ext m H m (upd H p o) := Ext.junk h
  cases u with
  | lst es => obtain ⟨vs, q, r⟩ := r; exact ⟨vs, by rw [upd_ne (ne_of_none q h)]; exact q, r.ext e⟩
  | rol es =>
    obtain ⟨vs, q, r⟩ := r
    refine ⟨vs, ?_, r.ext e⟩
    rcases q with q | ⟨o, q⟩
    · exact .inl (by rw [upd_ne (ne_of_none q h)]; exact q)
    · exact .inr ⟨o, by rw [upd_ne (ne_of_none q h)]; exact q⟩
  | dct kvs => obtain ⟨vs, q, r⟩ := r; exact ⟨vs, by rw [upd_ne (ne_of_none q h)]; exact q, r.ext e⟩
  | ins c fs => obtain ⟨dx, vs, q, r⟩ := r; exact ⟨dx, vs, by rw [upd_ne (ne_of_none q h)]; exact q, r.ext e⟩
theorem MtG.junk {m : Mp} {H : Hp} {G : Hq} {p : Addr} {o : HO} (M : MtG D m H G) (h : H p = none) : MtG D m (upd H p o) G :=
  ⟨M.dom, M.cod, M.inj, fun n u a q1 q2 => (M.obj n u a q1 q2).junk h, M.tab.ext fun b o q => by rw [upd_ne (ne_of_none q h)]; exact q⟩

theorem s_c {v : E} {v' : V} {w : TE} (h : ∀ σ H Q, Q v' H → w σ H Q) (r : ∀ m H, RV X.K m H v v') : Snd (dW X q) W (sC v) (RV X.K) w :=
  fun ρ G σ H m Q _ M F => h σ H Q (Fin.here F M (r m H))
theorem s_int {i k p} : SE X q W (sC (.int i)) (.Constant (.int i) k p) := s_c (v' := .int i) (fun σ H Q q => ⟨_, pe_int, q⟩) fun _ _ => .int i
theorem s_bl {b k p} : SE X q W (sC (.bl b)) (.Constant (.bool b) k p) := s_c (v' := .bl b) (fun σ H Q q => ⟨_, pe_bl, q⟩) fun _ _ => .bl b
theorem s_non {k p} : SE X q W (sC .non) (.Constant .none k p) := s_c (v' := .non) (fun σ H Q q => ⟨_, pe_non, q⟩) fun _ _ => .non
theorem s_str {x k p} : SE X q W (sC (.str x)) (.Constant (.str x) k p) := s_c (v' := .str x) (fun σ H Q q => ⟨_, pe_str, q⟩) fun _ _ => .str x
theorem s_var {i : Nat} {x : Str} {p : Pos} (hN : X.N[i]? = some x) (hv : Vis X.env.scope x) (hd : (x == ("__debug__" : Str)) = false) (hcd : (x == ("__classdict__" : Str)) = false) : SE X q W (sVar i) (.Name x p) := by
  intro ρ G σ H m Q ME M F
  refine ⟨_, pe_var hN hv hd hcd, ?_⟩
  cases q : ρ[i]? with
  | none => simp only [sVar, q, Fin] at F
  | some o =>
    cases o with
    | none => simp only [sVar, q, Fin] at F
    | some e =>
      obtain ⟨v, h1, h2⟩ := ME.2 i e q
      have e1 : sVar i ρ G = .ok e G := by simp only [sVar, q]
      rw [e1] at F
      exact ⟨v, h1, Fin.here F M h2⟩
/-- two in a row -/
theorem s_two {a' b' : Type} {sa : Sx α} {sb : Sx β} {ra : Mp → Hp → α → a' → Prop} {rb : Mp → Hp → β → b' → Prop} {wa : L2.St → Hp → (a' → Hp → Prop) → Prop} {wb : L2.St → Hp → (b' → Hp → Prop) → Prop}
    {f : α → β → Hq → R γ} {rel : Mp → Hp → γ → δ → Prop} {op : a' → b' → Hp → (δ → Hp → Prop) → Prop}
    (mono : ∀ m H m' H' x x', Ext m H m' H' → ra m H x x' → ra m' H' x x')
    (ha : Snd (dW X q) W sa ra wa) (hb : Snd (dW X q) W sb rb wb)
    (ho : ∀ x y G σ m H x' y' (Q : δ → Hp → Prop), MtG (dW X q) m H G → ra m H x x' → rb m H y y' → Fin (dW X q) W σ m H (f x y G) rel Q → op x' y' H Q) :
    Snd (dW X q) W (fun ρ G => (sa ρ G).bind fun x G1 => (sb ρ G1).bind fun y G2 => f x y G2) rel (fun σ H Q => wa σ H fun x H1 => wb σ H1 fun y H2 => op x y H2 Q) := by
  intro ρ G σ H m Q ME M F
  refine ha ρ G σ H m _ ME M (F.bind fun x G1 m1 x' H1 _ e1 M1 r1 F1 => ?_)
  refine hb ρ G1 σ H1 m1 _ (ME.ext e1) M1 (F1.bind fun y G2 m2 y' H2 _ e2 M2 r2 F2 => ?_)
  exact ho x y G2 σ m2 H2 x' y' Q M2 (mono _ _ _ _ _ _ e2 r1) r2 F2
theorem s_one {a' : Type} {sa : Sx α} {ra : Mp → Hp → α → a' → Prop} {wa : L2.St → Hp → (a' → Hp → Prop) → Prop} {f : α → Hq → R γ} {rel : Mp → Hp → γ → δ → Prop} {op : a' → Hp → (δ → Hp → Prop) → Prop}
    (ha : Snd (dW X q) W sa ra wa) (ho : ∀ x G σ m H x' (Q : δ → Hp → Prop), MtG (dW X q) m H G → ra m H x x' → Fin (dW X q) W σ m H (f x G) rel Q → op x' H Q) :
    Snd (dW X q) W (fun ρ G => (sa ρ G).bind fun x G1 => f x G1) rel (fun σ H Q => wa σ H fun x H1 => op x H1 Q) := by
  intro ρ G σ H m Q ME M F
  refine ha ρ G σ H m _ ME M (F.bind fun x G1 m1 x' H1 _ e1 M1 r1 F1 => ?_)
  exact ho x G1 σ m1 H1 x' Q M1 r1 F1
theorem RV.extm {K : PySem.W.Frag} : ∀ m H m' H' x x', Ext m H m' H' → RV K m H x x' → RV K m' H' x x' := fun _ _ _ _ _ _ e r => r.ext e
theorem optR_fin {σ : L2.St} {m : Mp} {H : Hp} {o : Option α} {G : Hq} {rel : Mp → Hp → α → β → Prop} {Q : β → Hp → Prop} (h : Fin (dW X q) W σ m H (optR o G) rel Q) : ∃ a, o = some a ∧ Fin (dW X q) W σ m H (.ok a G) rel Q := by
  cases o with
  | none => exact False.elim h
  | some a => exact ⟨a, rfl, h⟩
/-! ### operators -/
theorem cmul_of {i j : Int} (h : mulOk i j = true) : CMul i j := by
  unfold mulOk at h
  rw [Bool.or_eq_true, decide_eq_true_eq, decide_eq_true_eq] at h
  exact h
def rRepW (K : PySem.W.Frag) : R2 := fun x y H Q => ∃ l k xs, x = .ref l ∧ y = .int k ∧ SqT K H l xs ∧ xs ≠ [] ∧ 2 ≤ k ∧ k ≤ 10000 ∧ xs.length ≤ 1000 ∧ ∀ p, H p = none → Q (.ref p) (upd H p (.tup (List.replicate k.toNat xs).flatten))
theorem op_repW : OpR X (binaryOp .Mult) (rRepW X.K) := by
  intro pins s σ H x y v u Q I rx ry h
  obtain ⟨l, k, xs, rfl, rfl, hT, hne, h1, h2, hz, q⟩ := h
  cases rx
  obtain ⟨t, rfl⟩ := ry
  obtain ⟨its, r, ⟨⟨cls, dd, data, sl⟩, ho, hc, n, hd⟩, hs⟩ := I.tuple hT
  simp only at hc hd
  subst hc hd
  have hle : its.length = xs.length := r.length.symm
  have hn : its ≠ [] := fun e => hne (by
    rw [e] at hle
    exact List.eq_nil_of_length_eq_zero hle.symm)
  have hi : its.toArray.isEmpty = false := by
    cases its with
    | nil => exact absurd rfl hn
    | cons a b => rfl
  have hsz0 : its.toArray.size = xs.length := by rw [List.size_toArray, hle]
  have hm : ((its.toArray.size : Nat) : Int) * k ≤ 10000000 := by
    rw [hsz0]
    have a1 : ((xs.length : Nat) : Int) * k ≤ 1000 * k := Int.mul_le_mul_of_nonneg_right (by omega) (by omega)
    omega
  have flen0 : k.toNat * xs.length ≤ 10000 * 1000 := Nat.mul_le_mul (by omega) hz
  have flen : (List.replicate k.toNat its).flatten.length ≤ sizeLine := by
    rw [PyProof.Rows.lm_len_rep_flat, hle, sizeLine_eq]
    omega
  have c0 : (decide (k < -(2 ^ 63)) || decide (k ≥ 2 ^ 63)) = false := by
    rw [decide_eq_false (by omega), decide_eq_false (by omega)] <;> rfl
  have c1 : (its.toArray.isEmpty || k == 1) = false := by
    rw [hi, Bool.false_or]
    exact beq_eq_false_iff_ne.mpr (by omega)
  have c2 : (decide (k ≤ 0) || its.toArray.isEmpty) = false := by
    rw [hi, Bool.or_false]
    exact decide_eq_false (by omega)
  have c4 : Builtin.Tuple.tupleTooMany (((its.toArray.size : Nat) : Int) * k) = false := by
    unfold Builtin.Tuple.tupleTooMany
    rw [sizeLine_eq]
    exact decide_eq_false (by omega)
  refine wpAny_binaryOp_repeat_ref (T := "tuple") (U := "int") (by decide) ⟨_, ho, rfl⟩ (fun s' => typeIs_int s' k t) noFill_tuple_mul PySem.F.fills_int_mul PySem.F.slot_int_rmul repeat_tuple PySem.F.slot_int_index.lookup
    (call_meets PySem.F.slot_int_rmul (typeIs_int s k t) PySem.F.entry_int_rmul (PySem.F.args_int_rmul_2 _ _) (int_rmul_tuple k t l its.toArray n dd sl)
      ⟨ho, rfl, ⟨_, ho, rfl⟩, call_meets PySem.F.slot_tuple_mul ⟨_, ho, rfl⟩ PySem.F.entry_tuple_mul (PySem.F.args_tuple_mul_2 _ _) (tuple_mulW l its.toArray n dd sl k t c0 c1 c2 (by omega) c4 (by rw [size_rep, List.size_toArray]; exact flen)) ⟨ho, ?_⟩⟩)
  rw [size_rep]
  refine ⟨.ref s.heap.objs.size, _, I.laid (t' := s.toks) (o := .tup (List.replicate k.toNat xs).flatten) (fun b ob q => Heap.get?_push_of_some _ q) (Nat.le_refl _) ?_, rfl, q _ (I.hok.fresh (Nat.le_refl _))⟩
  exact ⟨by rw [PyProof.Rows.lm_len_rep_flat, sizeLine_eq]; omega, _, r.rep k.toNat, IsTup.new _ _⟩
theorem RVs.rep {K : PySem.W.Frag} {m : Mp} {H : Hp} {xs : List E} {vs : List V} (r : RVs K m H xs vs) : ∀ n : Nat, RVs K m H (List.replicate n xs).flatten (List.replicate n vs).flatten
  | 0 => .nil
  | n + 1 => by
    rw [List.replicate_succ, List.replicate_succ, List.flatten_cons, List.flatten_cons]
    exact r.append (RVs.rep r n)
theorem rep_ok {xs : List E} {k : Int} {a : Addr} {vs : List V} {G : Hq} {σ : L2.St} {m : Mp} {H : Hp} {Q : VK} (M : MtG (dW X q) m H G) (ta : TupAt X.K H a vs) (ra : RVs X.K m H xs vs) (hl : xs ≠ [] ∧ 2 ≤ k ∧ k ≤ 10000 ∧ xs.length ≤ 1000)
    (F : Fin (dW X q) W σ m H (.ok (.tup (List.replicate k.toNat xs).flatten) G) (RV X.K) Q) : wOp X (binaryOp .Mult) (.ref a) (.int k) H Q := by
  refine ⟨_, op_repW, a, k, vs, rfl, rfl, ta.sq, fun e => ?_, hl.2.1, hl.2.2.1, by rw [← ra.length]; exact hl.2.2.2, fun p hp => F.to (Ext.junk hp) (M.junk hp) (.tup (.inl upd_same) ((ra.rep k.toNat).ext (Ext.junk hp)))⟩
  subst e
  cases ra
  exact hl.1 rfl
theorem op_bin {o : BOp} {x y : E} {G : Hq} {σ : L2.St} {m : Mp} {H : Hp} {x' y' : V} {Q : VK} (M : MtG (dW X q) m H G) (rx : RV X.K m H x x') (ry : RV X.K m H y y') (F : Fin (dW X q) W σ m H (optR (binop o x y) G) (RV X.K) Q) :
    wOp X (binaryOp o.py) x' y' H Q := by
  obtain ⟨z, hz, F⟩ := optR_fin F
  cases o with
  | add =>
    cases rx with
    | int i =>
      cases ry with
      | int j => cases hz; exact ⟨_, op_add, i, j, rfl, rfl, F.here M (.int _)⟩
      | _ => cases hz
    | str a =>
      cases ry with
      | str b =>
        simp only [binop] at hz
        split at hz
        · rename_i hl
          cases hz
          exact ⟨_, op_add_str, a, b, rfl, rfl, hl, F.here M (.str _)⟩
        · cases hz
      | _ => cases hz
    | tup ta ra =>
      cases ry with
      | tup tb rb =>
        simp only [binop] at hz
        split at hz
        · rename_i hl
          cases hz
          refine ⟨_, op_catA, _, _, _, _, rfl, rfl, ta.sq, tb.sq, by rw [← ra.length, ← rb.length]; exact hl, fun e => ?_, fun _ e => ?_, fun _ _ p hp => F.to (Ext.junk hp) (M.junk hp) (.tup (.inl upd_same) ((ra.append rb).ext (Ext.junk hp)))⟩
          · subst e
            cases ra
            exact F.here M (.tup tb rb)
          · subst e
            cases rb
            exact F.here M (.tup ta (by rw [List.append_nil]; exact ra))
        · cases hz
      | _ => cases hz
    | _ => cases hz
  | sub =>
    cases rx with
    | int i =>
      cases ry with
      | int j => cases hz; exact ⟨_, op_sub, i, j, rfl, rfl, F.here M (.int _)⟩
      | _ => cases hz
    | _ => cases hz
  | mul =>
    cases rx with
    | int i =>
      cases ry with
      | int j =>
        simp only [binop] at hz
        split at hz
        · rename_i hl
          cases hz
          exact ⟨_, op_mul, i, j, rfl, rfl, cmul_of hl, F.here M (.int _)⟩
        · cases hz
      | _ => cases hz
    | tup ta ra =>
      cases ry with
      | int k =>
        simp only [binop] at hz
        split at hz
        · rename_i hl
          cases hz
          exact rep_ok M ta ra hl F
        · cases hz
      | _ => cases hz
    | _ => cases hz
  | fdiv =>
    cases rx with
    | int i =>
      cases ry with
      | int j =>
        simp only [binop] at hz
        split at hz
        · rename_i hl
          cases hz
          exact ⟨_, op_fdivN, i, j, rfl, rfl, hl, F.here M (.int _)⟩
        · cases hz
      | _ => cases hz
    | _ => cases hz
  | mod =>
    cases rx with
    | int i =>
      cases ry with
      | int j =>
        simp only [binop] at hz
        split at hz
        · rename_i hl
          cases hz
          exact ⟨_, op_modN, i, j, rfl, rfl, hl, F.here M (.int _)⟩
        · cases hz
      | _ => cases hz
    | _ => cases hz
theorem s_bin {o : BOp} {sa sb : Sx E} {a b : Expr} {p : Pos} (ha : SE X q W sa a) (hb : SE X q W sb b) : SE X q W (sBin o sa sb) (.BinOp a o.py b p) := by
  intro ρ G σ H m Q ME M F
  exact ⟨_, pe_op op_w pe_w pe_w, s_two (op := wOp X (binaryOp o.py)) RV.extm ha hb (fun x y G σ m H x' y' Q M rx ry F => op_bin M rx ry F) ρ G σ H m Q ME M F⟩
/-! ### comparisons -/
theorem eqE_op {x y : E} {b : Bool} {m : Mp} {H : Hp} {x' y' : V} (hu : X.A.units + 100 < cLine) (rx : RV X.K m H x x') (ry : RV X.K m H y y') (h : eqE x y = some b) :
    OpR X (compareOp .Eq) (fun u v H' Q => u = x' ∧ v = y' ∧ H' = H ∧ Q (.bl b) H) ∧ OpR X (compareOp .NotEq) (fun u v H' Q => u = x' ∧ v = y' ∧ H' = H ∧ Q (.bl (!b)) H) := by
  unfold eqE at h
  cases qx : x.dat with
  | none => rw [qx] at h; cases h
  | some d =>
    cases qy : y.dat with
    | none => rw [qx, qy] at h; cases h
    | some e =>
      rw [qx, qy] at h
      simp only at h
      split at h
      · rename_i hd
        cases h
        have hm : X.A.units + min d.depth e.depth < cLine := by
          have h1 : min d.depth e.depth ≤ d.depth := Nat.min_le_left _ _
          have h2 : min d.depth e.depth ≤ e.depth := Nat.min_le_right _ _
          omega
        constructor
        · intro pins s σ H' u v uu vv Q I ru rv h
          obtain ⟨rfl, rfl, rfl, q⟩ := h
          obtain ⟨as, r1⟩ := Dp.reads I d u uu (rx.dp qx) ru
          obtain ⟨bs, r2⟩ := Dp.reads I e v vv (ry.dp qy) rv
          exact SeqAt.eq_plain r1 r2 (E.dat_plain qx) (E.dat_plain qy) hm ⟨.bl _, _, I, rfl, q⟩
        · intro pins s σ H' u v uu vv Q I ru rv h
          obtain ⟨rfl, rfl, rfl, q⟩ := h
          obtain ⟨as, r1⟩ := Dp.reads I d u uu (rx.dp qx) ru
          obtain ⟨bs, r2⟩ := Dp.reads I e v vv (ry.dp qy) rv
          exact SeqAt.ne_plain r1 r2 (E.dat_plain qx) (E.dat_plain qy) hm ⟨.bl _, _, I, rfl, q⟩
      · cases h
/-- a comparison's value -/
theorem op_cmp {o : COp} {x y : E} {b : Bool} {m : Mp} {H : Hp} {x' y' : V} {Q : VK} (hu : X.A.units + 100 < cLine) (rx : RV X.K m H x x') (ry : RV X.K m H y y') (h : cmpop o x y = some b) (q : Q (.bl b) H) :
    wOp X (compareOp o.py) x' y' H Q := by
  have hints : ∀ {r : Int → Int → Bool} {op : CmpOp}, OpR X (compareOp op) (rI0 fun i j => .bl (r i j)) → (∀ x y b, cmpop o x y = some b → ∃ i j, x = .int i ∧ y = .int j ∧ b = r i j) → wOp X (compareOp op) x' y' H Q := by
    intro r op ho hc
    obtain ⟨i, j, rfl, rfl, rfl⟩ := hc x y b h
    cases rx
    cases ry
    exact ⟨_, ho, i, j, rfl, rfl, q⟩
  cases o with
  | eq => exact ⟨_, (eqE_op hu rx ry h).1, rfl, rfl, rfl, q⟩
  | ne =>
    have h2 : (eqE x y).map (!·) = some b := h
    cases q2 : eqE x y with
    | none => rw [q2] at h2; cases h2
    | some c =>
      rw [q2] at h2
      cases h2
      exact ⟨_, (eqE_op hu rx ry q2).2, rfl, rfl, rfl, q⟩
  | lt =>
    exact hints op_lt fun x y b h => by
      cases x <;> cases y <;> first
        | (rename_i i j; exact ⟨i, j, rfl, rfl, (Option.some.inj h).symm⟩)
        | (simp only [cmpop] at h; cases h)
  | le =>
    exact hints op_le fun x y b h => by
      cases x <;> cases y <;> first
        | (rename_i i j; exact ⟨i, j, rfl, rfl, (Option.some.inj h).symm⟩)
        | (simp only [cmpop] at h; cases h)
  | gt =>
    exact hints op_gt fun x y b h => by
      cases x <;> cases y <;> first
        | (rename_i i j; exact ⟨i, j, rfl, rfl, (Option.some.inj h).symm⟩)
        | (simp only [cmpop] at h; cases h)
  | ge =>
    exact hints op_ge fun x y b h => by
      cases x <;> cases y <;> first
        | (rename_i i j; exact ⟨i, j, rfl, rfl, (Option.some.inj h).symm⟩)
        | (simp only [cmpop] at h; cases h)
theorem nomark' {o : COp} (b : Expr) : behindInMarks o.py b = false := by
  cases o <;> exact nomark b
theorem st_cmp {o : COp} {sa sb : Sx E} {a b : Expr} {p : Pos} (C : CxG X W) (ha : SE X q W sa a) (hb : SE X q W sb b) : ST X q W (sCmp o sa sb) (.Compare a [o.py] [b] p) := by
  intro ρ G σ H m Q ME M F
  refine ⟨_, pt_cmpR op_w pe_w pe_w (nomark' b), ?_⟩
  refine s_two (op := fun x y H Q => wOp X (compareOp o.py) x y H fun x H' => ∃ k, x = .bl k ∧ Q k H') RV.extm ha hb (fun x y G σ m H x' y' Q M rx ry F => ?_) ρ G σ H m Q ME M F
  obtain ⟨b, hb, F⟩ := optR_fin F
  exact op_cmp C.un rx ry hb ⟨b, rfl, F.here M rfl⟩
theorem s_cmp {o : COp} {sa sb : Sx E} {a b : Expr} {p : Pos} (C : CxG X W) (ha : SE X q W sa a) (hb : SE X q W sb b) : SE X q W (sBl (sCmp o sa sb)) (.Compare a [o.py] [b] p) := by
  intro ρ G σ H m Q ME M F
  refine ⟨_, pe_cmpR op_w pe_w pe_w (nomark' b), ?_⟩
  refine ha ρ G σ H m _ ME M ?_
  unfold sBl sCmp at F
  cases qa : sa ρ G with
  | bad => rw [qa] at F; exact F
  | ex c G1 => rw [qa] at F; exact F
  | ok x G1 =>
    rw [qa] at F
    simp only [R.bind_ok] at F
    intro m1 x' H1 e1 M1 r1
    refine hb ρ G1 σ H1 m1 _ (ME.ext e1) M1 ?_
    cases qb : sb ρ G1 with
    | bad => rw [qb] at F; exact F
    | ex c G2 => rw [qb] at F; exact Fin.ext (β := V) (rel := RV X.K) (Q := Q) F e1
    | ok y G2 =>
      rw [qb] at F
      simp only [R.bind_ok] at F
      intro m2 y' H2 e2 M2 r2
      cases qc : cmpop o x y with
      | none => rw [qc] at F; exact F.elim
      | some b =>
        rw [qc] at F
        exact op_cmp C.un (r1.ext e2) r2 qc (F m2 (.bl b) H2 (e1.trans e2) M2 (.bl b))
end
end Lt
end
section
set_option Elab.async false
set_option linter.all false
set_option maxRecDepth 100000
/-! Lt: soundness of expressions, further. -/
namespace Lt
open PySem PySem.Spec PyProof.Rows L2
section
variable {X : Cx} {q : Wq} {W : WX} {α β γ δ : Type}
def wW (X : Cx) (e : Expr) : TT := fun σ H Q => ∃ t, PW X e t ∧ t σ H Q
theorem pw_w {e : Expr} : PW X e (wW X e) := ⟨fun wh pins s σ H Q I ⟨t, h, q⟩ => h.run wh pins s σ H Q I q⟩
abbrev SW (X : Cx) (q : Wq) (W : WX) (s : Sx Bool) (e : Expr) : Prop := Snd (dW X q) W s RB (wW X e)
/-- a bool's meaning as a value -/
theorem fin_bl {σ : L2.St} {m : Mp} {H : Hp} {r : R Bool} {Q : VK} (h : Fin (dW X q) W σ m H (r.bind fun b G1 => .ok (.bl b) G1) (RV X.K) Q) : Fin (dW X q) W σ m H r RB (fun b H' => Q (.bl b) H') := by
  cases r with
  | ok b G => exact fun m' b' H' e M rb => by cases rb; exact h m' (.bl b) H' e M (.bl b)
  | ex c G => exact h
  | bad => exact h
theorem RB.extm : ∀ (m : Mp) (H : Hp) (m' : Mp) (H' : Hp) (x x' : Bool), Ext m H m' H' → RB m H x x' → RB m' H' x x' := fun _ _ _ _ _ _ _ r => r
/-- .. of one place -/
theorem st_one {s : Sx E} {e : Expr} {f : E → Hq → R Bool} {op : V → Hp → (Bool → Hp → Prop) → Prop} (ha : SE X q W s e)
    (ho : ∀ x G σ m H x' (Q : Bool → Hp → Prop), MtG (dW X q) m H G → RV X.K m H x x' → Fin (dW X q) W σ m H (f x G) RB Q → op x' H Q) : Snd (dW X q) W (fun ρ G => (s ρ G).bind fun x G1 => f x G1) RB (fun σ H Q => wE X e σ H fun x H1 => op x H1 Q) := s_one ha ho
theorem bl_of {s : Sx Bool} {e : Expr} {t : TE} (ht : PE X e t) (h : Snd (dW X q) W s RB (fun σ H Q => t σ H fun x H1 => ∃ b, x = .bl b ∧ Q b H1)) (mono : ∀ σ H (Q Q' : VK), (∀ v H', Q v H' → Q' v H') → t σ H Q → t σ H Q') : SE X q W (sBl s) e := by
  intro ρ G σ H m Q ME M F
  refine ⟨t, ht, mono σ H _ _ (fun v H' q => ?_) (h ρ G σ H m (fun b H' => Q (.bl b) H') ME M (fin_bl F))⟩
  obtain ⟨b, rfl, q⟩ := q
  exact q
theorem wE.mono {e : Expr} {σ : L2.St} {H : Hp} {Q Q' : VK} (k : ∀ v H', Q v H' → Q' v H') (h : wE X e σ H Q) : wE X e σ H Q' := by
  obtain ⟨t, ht, q⟩ := h
  refine ⟨fun σ1 H1 Q1 => ∃ Q2 : VK, t σ1 H1 Q2 ∧ ∀ v H', Q2 v H' → Q1 v H', ⟨fun pins s σ1 H1 Q1 I hw => ?_⟩, Q, q, k⟩
  obtain ⟨Q2, q2, k2⟩ := hw
  exact thn (ht.run pins s σ1 H1 Q2 I q2) fun u s' ⟨v, H', I', r, q⟩ => ⟨v, H', I', r, k2 v H' q⟩
theorem st_isN {s : Sx E} {a : Expr} {k p1 p} (ha : SE X q W s a) : ST X q W (sIsN s) (.Compare a [.Is] [.Constant .none k p1] p) := by
  intro ρ G σ H m Q ME M F
  refine ⟨_, pt_cmp (pc_isN pe_w), ?_⟩
  refine st_one (op := fun x H1 Q => ∃ c, V.bl (decide (x = .non)) = .bl c ∧ Q c H1) ha (fun x G σ m H x' Q M rx F => ⟨_, rfl, F.here M ?_⟩) ρ G σ H m Q ME M F
  cases rx <;> first | rfl | (symm; exact decide_eq_false (fun h => by cases h))
theorem st_ntN {s : Sx E} {a : Expr} {k p1 p} (ha : SE X q W s a) : ST X q W (sNtN s) (.Compare a [.IsNot] [.Constant .none k p1] p) := by
  intro ρ G σ H m Q ME M F
  refine ⟨_, pt_cmp (pc_notN pe_w), ?_⟩
  refine st_one (op := fun x H1 Q => ∃ c, V.bl (!decide (x = .non)) = .bl c ∧ Q c H1) ha (fun x G σ m H x' Q M rx F => ⟨_, rfl, F.here M ?_⟩) ρ G σ H m Q ME M F
  show (!isNon x) = !decide (x' = .non)
  congr 1
  cases rx <;> first | rfl | (symm; exact decide_eq_false (fun h => by cases h))
theorem s_isN {s : Sx E} {a : Expr} {k p1 p} (ha : SE X q W s a) : SE X q W (sBl (sIsN s)) (.Compare a [.Is] [.Constant .none k p1] p) :=
  bl_of (pe_cmp (pc_isN pe_w)) (fun ρ G σ H m Q ME M F => st_one (op := fun x H1 Q => ∃ c, V.bl (decide (x = .non)) = .bl c ∧ Q c H1) ha (fun x G σ m H x' Q M rx F => ⟨_, rfl, F.here M (by
    cases rx <;> first | rfl | (symm; exact decide_eq_false (fun h => by cases h)))⟩) ρ G σ H m Q ME M F) fun σ H Q Q' k h => wE.mono (fun _ _ q => k _ _ q) h
theorem s_ntN {s : Sx E} {a : Expr} {k p1 p} (ha : SE X q W s a) : SE X q W (sBl (sNtN s)) (.Compare a [.IsNot] [.Constant .none k p1] p) :=
  bl_of (pe_cmp (pc_notN pe_w)) (fun ρ G σ H m Q ME M F => st_one (op := fun x H1 Q => ∃ c, V.bl (!decide (x = .non)) = .bl c ∧ Q c H1) ha (fun x G σ m H x' Q M rx F => ⟨_, rfl, F.here M (by
    show (!isNon x) = !decide (x' = .non)
    congr 1
    cases rx <;> first | rfl | (symm; exact decide_eq_false (fun h => by cases h)))⟩) ρ G σ H m Q ME M F) fun σ H Q Q' k h => wE.mono (fun _ _ q => k _ _ q) h
/-! ### truth -/
theorem tru_v {x : E} {x' : V} {b : Bool} {m : Mp} {H : Hp} (r : RV X.K m H x x') (h : truthy x = some b) : TruV X.K x' H b := by
  cases r with
  | non => cases h; rfl
  | bl b => cases h; rfl
  | int i => cases h; rfl
  | str z =>
    simp only [truthy] at h
    split at h
    · rename_i hl
      cases h
      refine ⟨hl, ?_⟩
      rw [Bool.eq_iff_iff]
      simp
    · cases h
  | tup t rs =>
    cases h
    refine .inr (.inl ⟨_, t.sq, ?_⟩)
    cases rs <;> rfl
  | ref _ => cases h
theorem st_tru {s : Sx E} {e : Expr} (ha : SE X q W s e) (he : ∀ whole, isTrue e X.env whole = (do let v ← whole; standAt e.pos; holding [v] (PySem.truthy v))) : ST X q W (sTru s) e := by
  intro ρ G σ H m Q ME M F
  refine ⟨_, pt_truth pe_w he, ?_⟩
  refine st_one (op := fun x H1 Q => ∃ k, TruV X.K x H1 k ∧ Q k H1) ha (fun x G σ m H x' Q M rx F => ?_) ρ G σ H m Q ME M F
  obtain ⟨b, hb, F⟩ := optR_fin F
  exact ⟨b, tru_v rx hb, F.here M rfl⟩
theorem RV.asB {x : E} {x' : V} {b : Bool} {K : PySem.W.Frag} {m : Mp} {H : Hp} (r : RV K m H x x') (h : asB x = some b) : x' = .bl b := by
  cases r <;> cases h; rfl
/-! ### not, and, or -/
theorem st_not {s : Sx Bool} {a : Expr} {p : Pos} (ha : ST X q W s a) : ST X q W (sNot s) (.UnaryOp .Not a p) := by
  intro ρ G σ H m Q ME M F
  refine ⟨_, pt_not pt_w, ?_⟩
  exact s_one (op := fun c H1 Q => Q (!c) H1) ha (fun x G σ m H x' Q M rx F => by cases rx; exact F.here M rfl) ρ G σ H m Q ME M F
theorem s_not {s : Sx E} {a : Expr} {p : Pos} (ha : SE X q W s a) : SE X q W (sBl (sNot (sAsB s))) (.UnaryOp .Not a p) := by
  intro ρ G σ H m Q ME M F
  refine ⟨_, pe_not pe_w, ?_⟩
  have F2 := fin_bl F
  refine ha ρ G σ H m _ ME M ?_
  cases q : s ρ G with
  | bad => simp only [sNot, sAsB, q, R.bind_bad] at F2; exact F2
  | ex c G1 => simp only [sNot, sAsB, q, R.bind_ex] at F2; exact F2
  | ok x G1 =>
    simp only [sNot, sAsB, q, R.bind_ok] at F2
    intro m1 x' H1 e1 M1 r1
    cases qb : asB x with
    | none => rw [qb] at F2; exact F2.elim
    | some b =>
      rw [qb] at F2
      exact ⟨b, r1.asB qb, F2 m1 _ H1 e1 M1 rfl⟩
theorem sw_and {s u : Sx Bool} {a b : Expr} {r : List Expr} {p : Pos} (ha : ST X q W s a) (hb : SW X q W u (.BoolOp .And (b :: r) p)) : SW X q W (sAnd s u) (.BoolOp .And (a :: b :: r) p) := by
  intro ρ G σ H m Q ME M F
  refine ⟨_, pw_and pt_w pw_w, ?_⟩
  refine ha ρ G σ H m _ ME M (F.bind fun x G1 m1 x' H1 _ e1 M1 r1 F1 => ?_)
  cases r1
  cases x with
  | true => exact hb ρ G1 σ H1 m1 Q (ME.ext e1) M1 F1
  | false => exact Fin.here F1 M1 rfl
theorem sw_or {s u : Sx Bool} {a b : Expr} {r : List Expr} {p : Pos} (ha : ST X q W s a) (hb : SW X q W u (.BoolOp .Or (b :: r) p)) : SW X q W (sOr s u) (.BoolOp .Or (a :: b :: r) p) := by
  intro ρ G σ H m Q ME M F
  refine ⟨_, pw_or pt_w pw_w, ?_⟩
  refine ha ρ G σ H m _ ME M (F.bind fun x G1 m1 x' H1 _ e1 M1 r1 F1 => ?_)
  cases r1
  cases x with
  | true => exact Fin.here F1 M1 rfl
  | false => exact hb ρ G1 σ H1 m1 Q (ME.ext e1) M1 F1
theorem sw_and1 {s : Sx Bool} {a : Expr} {p : Pos} (ha : ST X q W s a) : SW X q W s (.BoolOp .And [a] p) := fun ρ G σ H m Q ME M F => ⟨_, pw_and1 pt_w, ha ρ G σ H m Q ME M F⟩
theorem sw_or1 {s : Sx Bool} {a : Expr} {p : Pos} (ha : ST X q W s a) : SW X q W s (.BoolOp .Or [a] p) := fun ρ G σ H m Q ME M F => ⟨_, pw_or1 pt_w, ha ρ G σ H m Q ME M F⟩
theorem st_w {s : Sx Bool} {a : Expr} (ha : SW X q W s a) : ST X q W s a := fun ρ G σ H m Q ME M F => ⟨_, PW.pt pw_w, ha ρ G σ H m Q ME M F⟩
/-- as values -/
theorem s_asB {s : Sx E} {a : Expr} (ha : SE X q W s a) : Snd (dW X q) W (sAsB s) RB (fun σ H Q => wE X a σ H fun x H1 => ∃ c, x = .bl c ∧ Q c H1) := by
  intro ρ G σ H m Q ME M F
  refine s_one (op := fun x H1 Q => ∃ c, x = .bl c ∧ Q c H1) ha (fun x G σ m H x' Q M rx F => ?_) ρ G σ H m Q ME M F
  obtain ⟨b, hb, F⟩ := optR_fin F
  exact ⟨b, rx.asB hb, F.here M rfl⟩
theorem sv_and1 {s : Sx E} {a : Expr} {p : Pos} {op} (ha : SE X q W s a) : Snd (dW X q) W (sAsB s) RB (fun σ H Q => wE X (.BoolOp op [a] p) σ H fun x H1 => ∃ c, x = .bl c ∧ Q c H1) :=
  fun ρ G σ H m Q ME M F => ⟨_, pe_one pe_w, s_asB ha ρ G σ H m Q ME M F⟩
theorem sv_and {s : Sx E} {u : Sx Bool} {a b : Expr} {r : List Expr} {p : Pos} (ha : SE X q W s a) (hb : Snd (dW X q) W u RB (fun σ H Q => wE X (.BoolOp .And (b :: r) p) σ H fun x H1 => ∃ c, x = .bl c ∧ Q c H1)) :
    Snd (dW X q) W (sAnd (sAsB s) u) RB (fun σ H Q => wE X (.BoolOp .And (a :: b :: r) p) σ H fun x H1 => ∃ c, x = .bl c ∧ Q c H1) := by
  intro ρ G σ H m Q ME M F
  refine ⟨_, pe_and pe_w pe_w, ?_⟩
  refine s_asB ha ρ G σ H m _ ME M (F.bind fun x G1 m1 x' H1 _ e1 M1 r1 F1 => ?_)
  cases r1
  cases x with
  | true => exact hb ρ G1 σ H1 m1 Q (ME.ext e1) M1 F1
  | false => exact ⟨false, rfl, Fin.here F1 M1 rfl⟩
theorem sv_or {s : Sx E} {u : Sx Bool} {a b : Expr} {r : List Expr} {p : Pos} (ha : SE X q W s a) (hb : Snd (dW X q) W u RB (fun σ H Q => wE X (.BoolOp .Or (b :: r) p) σ H fun x H1 => ∃ c, x = .bl c ∧ Q c H1)) :
    Snd (dW X q) W (sOr (sAsB s) u) RB (fun σ H Q => wE X (.BoolOp .Or (a :: b :: r) p) σ H fun x H1 => ∃ c, x = .bl c ∧ Q c H1) := by
  intro ρ G σ H m Q ME M F
  refine ⟨_, pe_or pe_w pe_w, ?_⟩
  refine s_asB ha ρ G σ H m _ ME M (F.bind fun x G1 m1 x' H1 _ e1 M1 r1 F1 => ?_)
  cases r1
  cases x with
  | true => exact ⟨true, rfl, Fin.here F1 M1 rfl⟩
  | false => exact hb ρ G1 σ H1 m1 Q (ME.ext e1) M1 F1
theorem s_vB {s : Sx Bool} {a : Expr} (h : Snd (dW X q) W s RB (fun σ H Q => wE X a σ H fun x H1 => ∃ c, x = .bl c ∧ Q c H1)) : SE X q W (sBl s) a := by
  intro ρ G σ H m Q ME M F
  refine wE.mono (fun v H' q => ?_) (h ρ G σ H m (fun b H' => Q (.bl b) H') ME M (fin_bl F))
  obtain ⟨b, rfl, q⟩ := q
  exact q
/-! ### a if t else b -/
theorem s_ifx {s : Sx Bool} {u v : Sx E} {c a b : Expr} {p : Pos} (hc : ST X q W s c) (ha : SE X q W u a) (hb : SE X q W v b) : SE X q W (sIf s u v) (.IfExp c a b p) := by
  intro ρ G σ H m Q ME M F
  refine ⟨_, pe_ifExp pt_w pe_w pe_w, ?_⟩
  refine hc ρ G σ H m _ ME M (F.bind fun x G1 m1 x' H1 _ e1 M1 r1 F1 => ?_)
  cases r1
  cases x with
  | true => exact ha ρ G1 σ H1 m1 Q (ME.ext e1) M1 F1
  | false => exact hb ρ G1 σ H1 m1 Q (ME.ext e1) M1 F1
/-! ### displays, arguments -/
theorem sa_nil : SA X q W sNil [] := fun ρ G σ H m Q ME M F => ⟨_, pa_nil, Fin.here F M .nil⟩
theorem sa_cons {s : Sx E} {u : Sx (List E)} {e : Expr} {r : List Expr} (hs : starEach (e :: r) X.env = (false, eval e X.env) :: starEach r X.env) (ha : SE X q W s e) (hr : SA X q W u r) : SA X q W (sCons s u) (e :: r) := by
  intro ρ G σ H m Q ME M F
  refine ⟨_, pa_cons pe_w pa_w hs, ?_⟩
  refine ha ρ G σ H m _ ME M (F.bind fun x G1 m1 x' H1 _ e1 M1 r1 F1 => ?_)
  refine hr ρ G1 σ H1 m1 _ (ME.ext e1) M1 (F1.bind fun xs G2 m2 xs' H2 _ e2 M2 r2 F2 => ?_)
  exact Fin.here F2 M2 (.cons (r1.ext e2) r2)
theorem s_tup {s : Sx (List E)} {es : List Expr} {k : Nat} {p : Pos} (ha : SA X q W s es) : SE X q W (sTup s) (.Tuple es k p) := by
  intro ρ G σ H m Q ME M F
  refine ⟨_, pe_tup pa_w, ?_⟩
  refine ha ρ G σ H m _ ME M (F.bind fun xs G1 m1 xs' H1 _ e1 M1 r1 F1 => ?_)
  split at F1
  · rename_i hl
    refine ⟨by rw [← r1.length]; exact hl, fun q hq => ?_⟩
    exact Fin.to F1 (Ext.junk hq) (M1.junk hq) (.tup (.inl upd_same) (r1.ext (Ext.junk hq)))
  · exact F1.elim
/-! ### x[i], x[a:b] -/
def wIx (X : Cx) : R2 := fun x y H Q => ∃ r, IxR X r ∧ r x y H Q
theorem ix_w : IxR X (wIx X) := fun value slice pins s σ H x y v u Q I rx ry ⟨r, h, q⟩ hs => h value slice pins s σ H x y v u Q I rx ry q hs
theorem ix_dict (hu : X.A.units + 1 < cLine) : IxR X (fun x y H Q => ∃ a v, x = .ref a ∧ DGet H a y (some v) ∧ Q v H) := by
  intro value slice pins s σ H x y v u Q I rx ry h hs
  obtain ⟨a, z, rfl, g, q⟩ := h
  obtain rfl : v = Value.ref a := rx
  exact tail_any (ops := [.ref a, u]) (dict_typeIs I g) PySem.F.slot_dict_getitem.lookup (d_getItem hu I g ry fun w' s3 I3 rw' => ⟨z, H, I3, rw', q⟩) hs
theorem RKs.val {K : PySem.W.Frag} {m : Mp} {H : Hp} {x : Str} : ∀ {kvs : List (Str × E)} {vs : List (Key × V)} {e : E}, RKs K m H kvs vs → kvs.lookup x = some e → ∃ v, valV vs (.inr x) = some v ∧ RV K m H e v
  | [], _, _, .nil, h => by cases h
  | (y, a) :: kvs, (_, v) :: vs, e, .cons r rs, h => by
    rw [List.lookup_cons] at h
    cases q : x == y with
    | true =>
      rw [q] at h
      cases h
      refine ⟨v, ?_, r⟩
      have e : x = y := by simpa using q
      subst e
      simp [valV]
    | false =>
      rw [q] at h
      obtain ⟨w, h1, h2⟩ := RKs.val rs h
      refine ⟨w, ?_, h2⟩
      have ne : ¬ x = y := by simpa using q
      rw [← h1]
      exact valV_neg fun z => ne (Sum.inr.inj z).symm
end
end Lt
end
section
set_option Elab.async false
set_option linter.all false
set_option maxRecDepth 100000
/-! Lt: soundness of expressions: items, slices, built-ins, lists on the way. -/
namespace Lt
open PySem PySem.Spec PyProof.Rows L2
section
variable {X : Cx} {q : Wq} {W : WX} {α β γ δ : Type}
/-! ### x[i] -/
theorem ix_sub {x y z : E} {G : Hq} {m : Mp} {H : Hp} {x' y' : V} {Q : VK} (hu : X.A.units + 1 < cLine) (M : MtG (dW X q) m H G) (rx : RV X.K m H x x') (ry : RV X.K m H y y') (h : subE G x y = some z) (k : ∀ z', RV X.K m H z z' → Q z' H) :
    wIx X x' y' H Q := by
  cases rx with
  | tup t rs =>
    cases ry with
    | int i =>
      obtain ⟨w, h1, h2⟩ := rs.atI (show atI _ i = some z from h)
      exact ⟨_, ix_tup, _, _, i, w, rfl, rfl, t.sq, h1, k w h2⟩
    | _ => cases h
  | str a =>
    cases ry with
    | int i =>
      simp only [subE] at h
      split at h
      · rename_i hl
        cases e : atI a.cps.toList i with
        | none => rw [e] at h; cases h
        | some c =>
          rw [e] at h
          cases h
          exact ⟨_, ix_str, a, i, c, rfl, rfl, hl, e, k _ (.str _)⟩
      · cases h
    | _ => cases h
  | @ref n a hn =>
    cases ry with
    | int i =>
      simp only [subE] at h
      cases e : G[n]? with
      | none => rw [e] at h; cases h
      | some o =>
        rw [e] at h
        have ob := M.obj n o a e hn
        cases o with
        | lst xs =>
          obtain ⟨vs, h1, r⟩ := ob
          obtain ⟨w, h2, h3⟩ := r.atI (show atI xs i = some z from h)
          exact ⟨_, ix_list, _, _, i, w, rfl, rfl, .inl (.inl h1), h2, k w h3⟩
        | rol xs =>
          obtain ⟨vs, h1, r⟩ := ob
          obtain ⟨w, h2, h3⟩ := r.atI (show atI xs i = some z from h)
          exact ⟨_, ix_list, _, _, i, w, rfl, rfl, .inl h1, h2, k w h3⟩
        | _ => cases h
    | str x =>
      simp only [subE] at h
      cases e : G[n]? with
      | none => rw [e] at h; cases h
      | some o =>
        rw [e] at h
        have ob := M.obj n o a e hn
        cases o with
        | dct kvs =>
          obtain ⟨vs, h1, r⟩ := ob
          obtain ⟨w, h2, h3⟩ := r.val (show kvs.lookup x = some z from h)
          exact ⟨_, ix_dict hu, a, w, rfl, .inl ⟨_, .inr x, .inl h1, rfl, h2.symm⟩, k w h3⟩
        | _ => cases h
    | _ => cases h
  | _ => cases h
theorem s_sub {sa sb : Sx E} {a b : Expr} {p : Pos} (hu : X.A.units + 100 < cLine) (hp : PlainIx b) (ha : SE X q W sa a) (hb : SE X q W sb b) : SE X q W (sSub sa sb) (.Subscript a b p) := by
  intro ρ G σ H m Q ME M F
  refine ⟨_, pe_ix ix_w pe_w pe_w hp, ?_⟩
  refine s_two (f := fun x y G2 => optR (subE G2 x y) G2) (op := wIx X) RV.extm ha hb (fun x y G σ m H x' y' Q M rx ry F => ?_) ρ G σ H m Q ME M F
  obtain ⟨z, hz, F⟩ := optR_fin F
  exact ix_sub (by omega) M rx ry hz fun z' r => F.here M r
/-! ### x[a:b] -/
def wSl (X : Cx) : V → Option Int → Option Int → Hp → VK → Prop := fun x l h H Q => ∃ r, SlR X r ∧ r x l h H Q
theorem sl_w : SlR X (wSl X) := fun pins s σ H x v vl vu lo hi sl Q I rx hs pl pu ⟨r, h, q⟩ => h pins s σ H x v vl vu lo hi sl Q I rx hs pl pu q
theorem RVs.cut {K : PySem.W.Frag} {m : Mp} {H : Hp} {x : List E} {v : List V} {lo hi : Option Int} (r : RVs K m H x v) : RVs K m H ((x.drop (HT.sIx x.length 0 lo)).take (HT.sIx x.length x.length hi - HT.sIx x.length 0 lo)) (cutV v lo hi) := by
  unfold cutV
  rw [r.length]
  exact RVs.take _ (RVs.drop _ r)
theorem cut_all {α : Type} {xs : List α} {lo hi : Option Int} (h : HT.sIx xs.length 0 lo = 0 ∧ HT.sIx xs.length xs.length hi = xs.length) : (xs.drop (HT.sIx xs.length 0 lo)).take (HT.sIx xs.length xs.length hi - HT.sIx xs.length 0 lo) = xs := by
  rw [h.1, h.2]
  simp
theorem sl_cut {x z : E} {lo hi : Option Int} {m : Mp} {H : Hp} {x' : V} {Q : VK} {G : Hq} {σ : L2.St} (M : MtG (dW X q) m H G) (rx : RV X.K m H x x') (h : cutE lo hi x = some z) (F : Fin (dW X q) W σ m H (.ok z G) (RV X.K) Q) :
    wSl X x' lo hi H Q := by
  cases rx with
  | tup t rs =>
    cases h
    refine ⟨_, sl_tupA, _, _, rfl, t.sq, fun hw => ?_, fun hw p hp => ?_⟩
    · rw [← rs.length] at hw
      refine F.here M ?_
      rw [cut_all hw]
      exact .tup t rs
    · exact F.to (Ext.junk hp) (M.junk hp) (.tup (.inl upd_same) ((RVs.cut rs).ext (Ext.junk hp)))
  | str a =>
    simp only [cutE] at h
    split at h
    · rename_i hl
      cases h
      exact ⟨_, sl_str, a, rfl, hl, F.here M (.str _)⟩
    · cases h
  | _ => cases h
theorem so_none : SO X q W sOnone none := fun ρ G σ H m Q ME M F => ⟨_, po_none, Fin.here F M rfl⟩
theorem so_some {s : Sx E} {e : Expr} (ha : SE X q W s e) : SO X q W (sOsome s) (some e) := by
  intro ρ G σ H m Q ME M F
  refine ⟨_, po_some pe_w, ?_⟩
  refine ha ρ G σ H m _ ME M (F.bind fun x G1 m1 x' H1 _ e1 M1 r1 F1 => ?_)
  cases r1 with
  | int i => exact ⟨i, rfl, Fin.here F1 M1 rfl⟩
  | _ => exact F1.elim
theorem s_slice {sa : Sx E} {sl sh : Sx (Option Int)} {a : Expr} {lo hi : Option Expr} {p1 p : Pos} (ha : SE X q W sa a) (hl : SO X q W sl lo) (hh : SO X q W sh hi) : SE X q W (sSlice sa sl sh) (.Subscript a (.Slice lo hi none p1) p) := by
  intro ρ G σ H m Q ME M F
  refine ⟨_, pe_slice sl_w pe_w po_w po_w, ?_⟩
  refine ha ρ G σ H m _ ME M (F.bind fun x G1 m1 x' H1 _ e1 M1 r1 F1 => ?_)
  refine hl ρ G1 σ H1 m1 _ (ME.ext e1) M1 (F1.bind fun l G2 m2 l' H2 _ e2 M2 r2 F2 => ?_)
  refine hh ρ G2 σ H2 m2 _ ((ME.ext e1).ext e2) M2 (F2.bind fun u G3 m3 u' H3 _ e3 M3 r3 F3 => ?_)
  cases r2
  cases r3
  obtain ⟨z, hz, F3⟩ := optR_fin F3
  exact sl_cut M3 ((r1.ext e2).ext e3) hz F3
/-! ### names of the module -/
theorem s_glb {x : Str} {v : E} {v' : V} {u : Value} {p : Pos} (hg : Gl X x) (hm : X.mg x = some u) (r : RelV v' u) (hd : (x == ("__debug__" : Str)) = false) (rv : ∀ m H, RV X.K m H v v') : SE X q W (sC v) (.Name x p) :=
  s_c (fun σ H Q h => ⟨_, pe_glob hg hm r hd, h⟩) rv
/-! ### lists on the way -/
def RL (K : PySem.W.Frag) : Mp → Hp → LH → V → Prop := fun m H l v => match l with
  | .tmp es => ∃ a vs, v = .ref a ∧ H a = some (.lst vs) ∧ RVs K m H es vs ∧ ∀ n, m n ≠ some a
  | .pl n => ∃ a, v = .ref a ∧ m n = some a
theorem RL.ext {K : PySem.W.Frag} {m m' : Mp} {H H' : Hp} {l : LH} {v : V} (r : RL K m H l v) (e : Ext m H m' H') : RL K m' H' l v := by
  cases l with
  | tmp es =>
    obtain ⟨a, vs, rfl, h, r, hn⟩ := r
    refine ⟨a, vs, rfl, e.stay a _ h (fun ps z => nomatch z) hn, r.ext e, fun n z => ?_⟩
    rcases e.new n a z with z | z
    · exact hn n z
    · exact z.no h fun ps z => nomatch z
  | pl n =>
    obtain ⟨a, rfl, h⟩ := r
    exact ⟨a, rfl, e.mono n a h⟩
theorem RL.extm {K : PySem.W.Frag} : ∀ m H m' H' x x', Ext m H m' H' → RL K m H x x' → RL K m' H' x x' := fun _ _ _ _ _ _ e r => RL.ext r e
theorem RL.get {m : Mp} {H : Hp} {G : Hq} {l : LH} {v : V} {es : List E} (r : RL X.K m H l v) (M : MtG (dW X q) m H G) (h : l.get G = some es) : ∃ a vs, v = .ref a ∧ SqL X.K H a vs ∧ RVs X.K m H es vs := by
  cases l with
  | tmp es =>
    cases h
    obtain ⟨a, vs, rfl, h, r, _⟩ := r
    exact ⟨a, vs, rfl, .inl (.inl h), r⟩
  | pl n =>
    obtain ⟨a, rfl, hn⟩ := r
    simp only [LH.get] at h
    cases e : G[n]? with
    | none => rw [e] at h; cases h
    | some o =>
      rw [e] at h
      have ob := M.obj n o a e hn
      cases o with
      | lst xs => cases h; obtain ⟨vs, h1, r⟩ := ob; exact ⟨a, vs, rfl, .inl (.inl h1), r⟩
      | rol xs => cases h; obtain ⟨vs, h1, r⟩ := ob; exact ⟨a, vs, rfl, .inl h1, r⟩
      | _ => cases h
theorem RL.getM {m : Mp} {H : Hp} {G : Hq} {l : LH} {v : V} {es : List E} (r : RL X.K m H l v) (M : MtG (dW X q) m H G) (h : l.getM G = some es) : ∃ a vs, v = .ref a ∧ H a = some (.lst vs) ∧ RVs X.K m H es vs := by
  cases l with
  | tmp es =>
    cases h
    obtain ⟨a, vs, rfl, h, r, _⟩ := r
    exact ⟨a, vs, rfl, h, r⟩
  | pl n =>
    obtain ⟨a, rfl, hn⟩ := r
    simp only [LH.getM] at h
    cases e : G[n]? with
    | none => rw [e] at h; cases h
    | some o =>
      rw [e] at h
      have ob := M.obj n o a e hn
      cases o with
      | lst xs => cases h; obtain ⟨vs, h1, r⟩ := ob; exact ⟨a, vs, rfl, h1, r⟩
      | _ => cases h
/-- .. new since H0, if it was made on the way -/
def RLn (K : PySem.W.Frag) (H0 : Hp) : Mp → Hp → LH → V → Prop := fun m H l v => RL K m H l v ∧ ∀ es, l = .tmp es → ∃ a, v = .ref a ∧ NT H0 a
def SL (X : Cx) (q : Wq) (W : WX) (s : Sx LH) (e : Expr) : Prop :=
  ∀ (ρ : Ro) (G : Hq) (σ : L2.St) (H : Hp) (m : Mp) (Q : V → Hp → Prop), MtE X.K m H ρ σ → MtG (dW X q) m H G → Fin (dW X q) W σ m H (s ρ G) (RLn X.K H) Q → wE X e σ H Q
/-- a new list -/
theorem fin_tmp {σ : L2.St} {m : Mp} {H H0 : Hp} {G : Hq} {xs : List E} {vs : List V} {p : Addr} {Q : VK} (M : MtG (dW X q) m H G) (F : Fin (dW X q) W σ m H (.ok (.tmp xs) G) (RLn X.K H0) Q) (r : RVs X.K m H xs vs) (hp : H p = none) (h0 : NT H p → NT H0 p) : Q (.ref p) (upd H p (.lst vs)) :=
  F.to (Ext.junk hp) (M.junk hp) ⟨⟨p, vs, rfl, upd_same, r.ext (Ext.junk hp), M.ne_none hp⟩, fun _ _ => ⟨p, rfl, h0 (.inl hp)⟩⟩
theorem l_ofE {s : Sx E} {e : Expr} (ha : SE X q W s e) : SL X q W (sOfE s) e := by
  intro ρ G σ H m Q ME M F
  refine wE.mono (fun v H' h => h) (ha ρ G σ H m _ ME M (F.bind fun x G1 m1 x' H1 _ e1 M1 r1 F1 => ?_))
  cases r1 with
  | ref hn =>
    simp only at F1
    split at F1
    · exact Fin.here F1 M1 ⟨⟨_, rfl, hn⟩, fun es z => nomatch z⟩
    · exact F1.elim
  | _ => exact F1.elim
theorem l_disp {s : Sx (List E)} {es : List Expr} {p : Pos} (ha : SA X q W s es) : SL X q W (sDisp s) (.List es p) := by
  intro ρ G σ H m Q ME M F
  refine ⟨_, pe_lst pa_w, ?_⟩
  refine ha ρ G σ H m _ ME M (F.bind fun xs G1 m1 xs' H1 _ e1 M1 r1 F1 => ?_)
  split at F1
  · rename_i hl
    exact ⟨by rw [← r1.length]; exact hl, fun p hp => fin_tmp M1 F1 r1 hp (e1.there _)⟩
  · exact F1.elim
theorem l_cat {sa sb : Sx LH} {a b : Expr} {p : Pos} (ha : SL X q W sa a) (hb : SL X q W sb b) : SL X q W (sCat sa sb) (.BinOp a .Add b p) := by
  intro ρ G σ H m Q ME M F
  refine ⟨_, pe_op (op := .Add) op_cat pe_w pe_w, ?_⟩
  refine ha ρ G σ H m _ ME M (F.bind fun x G1 m1 x' H1 _ e1 M1 r1 F1 => ?_)
  refine hb ρ G1 σ H1 m1 _ (ME.ext e1) M1 (F1.bind fun y G2 m2 y' H2 _ e2 M2 r2 F2 => ?_)
  cases qx : x.getM G2 with
  | none => rw [qx] at F2; exact F2.elim
  | some xs =>
    cases qy : y.getM G2 with
    | none => rw [qx, qy] at F2; exact F2.elim
    | some ys =>
      rw [qx, qy] at F2
      simp only [optR_some, R.bind_ok] at F2
      split at F2
      · rename_i hl
        obtain ⟨a, vs, rfl, h1, s1⟩ := RL.getM (RL.ext r1.1 e2) M2 qx
        obtain ⟨b, ws, rfl, h2, s2⟩ := RL.getM r2.1 M2 qy
        exact ⟨a, b, vs, ws, rfl, rfl, h1, h2, by rw [← s1.length, ← s2.length]; exact hl, fun p hp => fin_tmp M2 F2 (s1.append s2) hp fun h => e1.there _ (e2.there _ h)⟩
      · exact F2.elim
/-! ### built-ins -/
def bltv : List (Str × Value) := [("len", .builtin "len"), ("abs", .builtin "abs"), ("int", .type "int"), ("tuple", .type "tuple"), ("all", .builtin "all"), ("isinstance", .builtin "isinstance"), ("range", .type "range")]
def wC (X : Cx) (f : Value) : List V → Hp → VK → Prop := fun vs H Q => ∃ r, CallR X f r ∧ r vs H Q
theorem call_w {f : Value} : CallR X f (wC X f) := fun pins s σ H xs us Q I rx ⟨r, h, q⟩ => h pins s σ H xs us Q I rx q
theorem RKs.len {K : PySem.W.Frag} {m : Mp} {H : Hp} : ∀ {kvs : List (Str × E)} {vs : List (Key × V)}, RKs K m H kvs vs → kvs.length = vs.length
  | _, _, .nil => rfl
  | _, _, .cons _ r => by rw [List.length_cons, List.length_cons, RKs.len r]
theorem c_len {x : E} {G : Hq} {m : Mp} {H : Hp} {x' : V} {n : Nat} {Q : VK} (M : MtG (dW X q) m H G) (r : RV X.K m H x x') (h : lenE G x = some n) (k : Q (.int (n : Int)) H) : wC X (.builtin "len") [x'] H Q := by
  cases r with
  | tup t rs => cases h; exact ⟨_, call_len, _, _, rfl, .inr ⟨_, t.sq, rs.length⟩, k⟩
  | str z =>
    simp only [lenE] at h
    split at h
    · rename_i hl; cases h; exact ⟨_, call_len, _, _, rfl, ⟨hl, rfl⟩, k⟩
    · cases h
  | @ref i a hn =>
    simp only [lenE] at h
    cases e : G[i]? with
    | none => rw [e] at h; cases h
    | some o =>
      rw [e] at h
      have ob := M.obj i o a e hn
      cases o with
      | lst xs => cases h; obtain ⟨vs, h1, r⟩ := ob; exact ⟨_, call_len, _, _, rfl, .inl ⟨vs, .inl (.inl h1), r.length⟩, k⟩
      | rol xs => cases h; obtain ⟨vs, h1, r⟩ := ob; exact ⟨_, call_len, _, _, rfl, .inl ⟨vs, .inl h1, r.length⟩, k⟩
      | dct kvs => cases h; obtain ⟨vs, h1, r⟩ := ob; exact ⟨_, call_lenD, a, vs, rfl, h1, by rw [← r.len]; exact k⟩
      | _ => cases h
  | _ => cases h
def B1.val : B1 → Value
  | .len => .builtin "len" | .abs => .builtin "abs" | .int => .type "int"
theorem c_bi1 {b : B1} {x y : E} {G : Hq} {m : Mp} {H : Hp} {x' : V} {Q : VK} (M : MtG (dW X q) m H G) (r : RV X.K m H x x') (h : bi1E G b x = some y) (k : ∀ y', RV X.K m H y y' → Q y' H) : wC X b.val [x'] H Q := by
  cases b with
  | len =>
    simp only [bi1E, Option.map_eq_some_iff] at h
    obtain ⟨n, h, rfl⟩ := h
    exact c_len M r h (k _ (.int _))
  | abs =>
    cases r with
    | int i => cases h; exact ⟨_, call_abs, i, rfl, k _ (.int _)⟩
    | _ => cases h
  | int =>
    cases r with
    | int i => cases h; exact ⟨_, call_int1, .inl ⟨i, rfl, k _ (.int _)⟩⟩
    | bl b => cases h; exact ⟨_, call_int1, .inr ⟨b, rfl, k _ (.int _)⟩⟩
    | _ => cases h
theorem s_bi1 {b : B1} {s : Sx E} {a : Expr} {p1 p : Pos} (hg : Gl X b.name) (hm : X.mg b.name = none) (hs : starEach [a] X.env = [(false, eval a X.env)]) (ha : SE X q W s a) : SE X q W (sBi1 b s) (.Call (.Name b.name p1) [a] [] p) := by
  intro ρ G σ H m Q ME M F
  have key : ∀ t, PE X (.Call (.Name b.name p1) [a] [] p) t → (∀ σ H Q, wA X [a] σ H (fun vs H1 => wC X b.val vs H1 Q) → t σ H Q) → wE X (.Call (.Name b.name p1) [a] [] p) σ H Q := by
    intro t ht hk
    refine ⟨t, ht, hk _ _ _ ⟨_, pa_cons pe_w pa_nil hs, ?_⟩⟩
    refine ha ρ G σ H m _ ME M (F.bind fun x G1 m1 x' H1 _ e1 M1 r1 F1 => ?_)
    obtain ⟨y, hy, F1⟩ := optR_fin F1
    exact c_bi1 M1 r1 hy fun y' r => Fin.here F1 M1 r
  cases b with
  | len => exact key _ (pe_callB (id := "len") call_w hg hm rfl pa_w (he := hs)) fun _ _ _ h => h
  | abs => exact key _ (pe_callB (id := "abs") call_w hg hm rfl pa_w (he := hs)) fun _ _ _ h => h
  | int => exact key _ (pe_callTy (T := "int") call_w hg hm rfl pa_w (he := hs)) fun _ _ _ h => h
end
end Lt
end
section
set_option Elab.async false
set_option linter.all false
set_option maxRecDepth 100000
/-! Lt: soundness of expressions: built-ins of lists and texts. -/
namespace Lt
open PySem PySem.Spec PyProof.Rows L2
section
variable {X : Cx} {q : Wq} {W : WX} {α β γ δ : Type}
theorem RVs.bls {K : PySem.W.Frag} {m : Mp} {H : Hp} : ∀ {xs : List E} {vs : List V} {bs : List Bool}, RVs K m H xs vs → asBs xs = some bs → vs = bs.map V.bl
  | [], _, _, .nil, h => by cases h; rfl
  | x :: r, _, bs, .cons a t, h => by
    unfold asBs at h
    cases q1 : asB x with
    | none => rw [q1] at h; cases h
    | some b =>
      rw [q1] at h
      cases q2 : asBs r with
      | none => rw [q2] at h; cases h
      | some ys =>
        rw [q2] at h
        cases h
        rw [RVs.bls t q2, a.asB q1]
        rfl
theorem RVs.ints {K : PySem.W.Frag} {m : Mp} {H : Hp} : ∀ {xs : List E} {vs : List V} {is : List Int}, RVs K m H xs vs → asIs xs = some is → vs = is.map V.int
  | [], _, _, .nil, h => by cases h; rfl
  | x :: r, _, is, .cons a t, h => by
    cases a with
    | int z =>
      simp only [asIs, Option.map_eq_some_iff] at h
      obtain ⟨zs, h, rfl⟩ := h
      rw [RVs.ints t h]
      rfl
    | _ => simp [asIs] at h
theorem RVs.sts {K : PySem.W.Frag} {m : Mp} {H : Hp} : ∀ {xs : List E} {vs : List V} {ys : List Str}, RVs K m H xs vs → asSs xs = some ys → vs = ys.map V.str
  | [], _, _, .nil, h => by cases h; rfl
  | x :: r, _, ys, .cons a t, h => by
    cases a with
    | str z =>
      simp only [asSs, Option.map_eq_some_iff] at h
      obtain ⟨zs, h, rfl⟩ := h
      rw [RVs.sts t h]
      rfl
    | _ => simp [asSs] at h
theorem s_biL {b : BL} {s : Sx LH} {a : Expr} {p1 p : Pos} (C : CxG X W) (hg : Gl X b.name) (hm : X.mg b.name = none) (hs : starEach [a] X.env = [(false, eval a X.env)]) (ha : SL X q W s a) : SE X q W (sBiL b s) (.Call (.Name b.name p1) [a] [] p) := by
  intro ρ G σ H m Q ME M F
  cases b with
  | tup =>
    refine ⟨_, pe_callTy (T := "tuple") call_tuple_of hg hm rfl (pa_cons pe_w pa_nil hs) (he := hs), ?_⟩
    refine ha ρ G σ H m _ ME M (F.bind fun x G1 m1 x' H1 _ e1 M1 r1 F1 => ?_)
    cases qx : x.get G1 with
    | none => rw [qx] at F1; exact F1.elim
    | some xs =>
      rw [qx] at F1
      obtain ⟨a, vs, rfl, sq, rs⟩ := RL.get r1.1 M1 qx
      exact ⟨a, vs, rfl, .inl ⟨sq, fun l hl => F1.to (Ext.junk hl) (M1.junk hl) (.tup (.inl upd_same) (rs.ext (Ext.junk hl)))⟩⟩
  | all =>
    refine ⟨_, pe_callB (id := "all") (cr_all C.calm) hg hm rfl (pa_cons pe_w pa_nil hs) (he := hs), ?_⟩
    refine ha ρ G σ H m _ ME M (F.bind fun x G1 m1 x' H1 _ e1 M1 r1 F1 => ?_)
    cases qx : x.get G1 with
    | none => rw [qx] at F1; exact F1.elim
    | some xs =>
      rw [qx] at F1
      obtain ⟨a, vs, rfl, sq, rs⟩ := RL.get r1.1 M1 qx
      simp only [optR_some, R.bind_ok, biLE] at F1
      cases qb : asBs xs with
      | none => rw [qb] at F1; exact F1.elim
      | some bs =>
        rw [qb] at F1
        have e := RVs.bls rs qb
        subst e
        exact ⟨a, bs, rfl, sq, F1.here M1 (.bl _)⟩
  | any =>
    refine ⟨_, pe_callB (id := "any") (cr_any C.calm) hg hm rfl (pa_cons pe_w pa_nil hs) (he := hs), ?_⟩
    refine ha ρ G σ H m _ ME M (F.bind fun x G1 m1 x' H1 _ e1 M1 r1 F1 => ?_)
    cases qx : x.get G1 with
    | none => rw [qx] at F1; exact F1.elim
    | some xs =>
      rw [qx] at F1
      obtain ⟨a, vs, rfl, sq, rs⟩ := RL.get r1.1 M1 qx
      simp only [optR_some, R.bind_ok, biLE] at F1
      cases qb : asBs xs with
      | none => rw [qb] at F1; exact F1.elim
      | some bs =>
        rw [qb] at F1
        have e := RVs.bls rs qb
        subst e
        exact ⟨a, bs, rfl, sq, F1.here M1 (.bl _)⟩
  | sum =>
    refine ⟨_, pe_callB (id := "sum") (cr_sum C.calm) hg hm rfl (pa_cons pe_w pa_nil hs) (he := hs), ?_⟩
    refine ha ρ G σ H m _ ME M (F.bind fun x G1 m1 x' H1 _ e1 M1 r1 F1 => ?_)
    cases qx : x.get G1 with
    | none => rw [qx] at F1; exact F1.elim
    | some xs =>
      rw [qx] at F1
      obtain ⟨a, vs, rfl, sq, rs⟩ := RL.get r1.1 M1 qx
      simp only [optR_some, R.bind_ok, biLE] at F1
      cases qb : asIs xs with
      | none => rw [qb] at F1; exact F1.elim
      | some is =>
        rw [qb] at F1
        have e := RVs.ints rs qb
        subst e
        exact ⟨a, is, rfl, sq, F1.here M1 (.int _)⟩
def TyN.val : TyN → V
  | .str => .ty "str" | .tup => .ty "tuple"
def TyN.ty : TyN → String
  | .str => "str" | .tup => "tuple"
theorem isi_ty {t : TyN} {x : E} {b : Bool} {m : Mp} {H : Hp} {x' : V} (r : RV X.K m H x x') (h : isiE t x = some b) : ∃ u, TyX X.K H x' u ∧ PySem.W.kitOne X.K u (.type t.ty) = some b := by
  have tup : ∀ {a vs}, TupAt X.K H a vs → TyX X.K H (.ref a) (.type "tuple") := fun h => by
    rcases h with h | ⟨o, its, n, h1, h2, _⟩
    · exact .base (.tup h)
    · exact .kTuple h1 h2
  cases r with
  | non => cases t <;> cases h <;> exact ⟨_, .base .non, kit_ty (by decide +kernel)⟩
  | bl y => cases t <;> cases h <;> exact ⟨_, .base (.bl y), kit_ty (by decide +kernel)⟩
  | int i => cases t <;> cases h <;> exact ⟨_, .base (.int i), kit_ty (by decide +kernel)⟩
  | str z => cases t <;> cases h <;> exact ⟨_, .base (.str z), kit_ty (by decide +kernel)⟩
  | tup ta rs => cases t <;> cases h <;> exact ⟨_, tup ta, kit_ty (by decide +kernel)⟩
  | ref hn => cases t <;> cases h
theorem s_isi {t : TyN} {s : Sx E} {a : Expr} {p1 p2 p : Pos} (hg : Gl X "isinstance") (hm : X.mg "isinstance" = none) (hgt : Gl X t.name) (hmt : X.mg t.name = none)
    (hs : starEach [a, .Name t.name p2] X.env = (false, eval a X.env) :: starEach [.Name t.name p2] X.env) (ha : SE X q W s a) : SE X q W (sIsi t s) (.Call (.Name "isinstance" p1) [a, .Name t.name p2] [] p) := by
  intro ρ G σ H m Q ME M F
  have hn : PE X (.Name t.name p2) (tC t.val) := by
    cases t with
    | str => exact pe_bltn hgt hmt rfl rfl (by decide) (by decide)
    | tup => exact pe_bltn hgt hmt rfl rfl (by decide) (by decide)
  have hs2 : starEach [.Name t.name p2] X.env = [(false, eval (.Name t.name p2) X.env)] := by rfl
  refine ⟨_, pe_callB (id := "isinstance") call_isi hg hm rfl (pa_cons pe_w (pa_cons hn pa_nil hs2) hs) (he := hs) (hpl := by rw [hs2]; rfl), ?_⟩
  refine ha ρ G σ H m _ ME M (F.bind fun x G1 m1 x' H1 _ e1 M1 r1 F1 => ?_)
  cases qb : isiE t x with
  | none => rw [qb] at F1; exact F1.elim
  | some b =>
    rw [qb] at F1
    obtain ⟨u, ty, k⟩ := isi_ty r1 qb
    refine ⟨x', t.val, u, .type t.ty, b, rfl, ?_, ty, k, F1.here M1 (.bl b)⟩
    cases t <;> exact .ty _
theorem in_s {x y : E} {b : Bool} {m : Mp} {H : Hp} {x' y' : V} {Q : VK} (rx : RV X.K m H x x') (ry : RV X.K m H y y') (h : inSE x y = some b) (k : Q (.bl b) H) : wOp X (compareOp .In) x' y' H Q := by
  cases rx with
  | str a =>
    cases ry with
    | str z =>
      simp only [inSE] at h
      split at h
      · rename_i c hc
        cases h
        refine ⟨_, op_in_sign, c, z, ?_, rfl, k⟩
        obtain ⟨⟨l⟩⟩ := a
        simp only at hc
        subst hc
        rfl
      · cases h
    | _ => cases h
  | _ => cases h
theorem st_inS {sa sb : Sx E} {a b : Expr} {p : Pos} (hb0 : behindInMarks .In b = false) (ha : SE X q W sa a) (hb : SE X q W sb b) : ST X q W (sInS sa sb) (.Compare a [.In] [b] p) := by
  intro ρ G σ H m Q ME M F
  refine ⟨_, pt_cmpR op_w pe_w pe_w hb0, ?_⟩
  refine s_two (f := fun x y G2 => optR (inSE x y) G2) (op := fun x y H Q => wOp X (compareOp .In) x y H fun x H' => ∃ k, x = .bl k ∧ Q k H') RV.extm ha hb (fun x y G σ m H x' y' Q M rx ry F => ?_) ρ G σ H m Q ME M F
  obtain ⟨b, hb, F⟩ := optR_fin F
  exact in_s rx ry hb ⟨b, rfl, F.here M rfl⟩
theorem R.bind_assoc {a b c : Type} (r : R a) (f : a → Hq → R b) (g : b → Hq → R c) : (r.bind f).bind g = r.bind fun x G => (f x G).bind g := by cases r <;> rfl
theorem s_inS {sa sb : Sx E} {a b : Expr} {p : Pos} (hb0 : behindInMarks .In b = false) (ha : SE X q W sa a) (hb : SE X q W sb b) : SE X q W (sBl (sInS sa sb)) (.Compare a [.In] [b] p) := by
  intro ρ G σ H m Q ME M F
  refine ⟨_, pe_cmpR op_w pe_w pe_w hb0, ?_⟩
  unfold sBl sInS at F
  rw [R.bind_assoc] at F
  refine ha ρ G σ H m _ ME M (F.bind fun x G1 m1 x' H1 _ e1 M1 r1 F1 => ?_)
  rw [R.bind_assoc] at F1
  refine hb ρ G1 σ H1 m1 _ (ME.ext e1) M1 (F1.bind fun y G2 m2 y' H2 _ e2 M2 r2 F2 => ?_)
  cases hz : inSE x y with
  | none => rw [hz] at F2; exact F2.elim
  | some b =>
    rw [hz] at F2
    exact in_s (r1.ext e2) r2 hz (Fin.here F2 M2 (.bl b))
theorem RV.tyS {x : E} {v : V} {z : Str} {m : Mp} {H : Hp} (r : RV X.K m H x v) (h : x = .str z) : v = .str z := by
  subst h; cases r; rfl
theorem s_sidx {sa sb : Sx E} {a b : Expr} {p1 p : Pos} (C : CxG X W) (hbase : attributeBase a "index" X.env (eval a X.env) = eval a X.env) (hs : starEach [b] X.env = [(false, eval b X.env)])
    (hfew : ((backTo p (starEach [b] X.env)).all (fun x => !x.1) && (backToKw p (keywordEach [] X.env)).all (fun x => x.1.isSome)
      && decide ([b].length + ([] : List Keyword).length + (if ([] : List Keyword).isEmpty then 0 else 1) < 30)) = true)
    (hl : (p1.endLine == p.line) = true) (ha : SE X q W sa a) (hb : SE X q W sb b) : SE X q W (sSidx sa sb) (.Call (.Attribute a "index" p1) [b] [] p) := by
  intro ρ G σ H m Q ME M F
  refine ⟨_, pe_bmS PySem.F.plainAttrs_str PySem.F.slot_str_index PySem.F.type_str_index (mt_indexX C.calm C.tk) pe_w (pa_cons pe_w pa_nil hs) hbase hfew hl hs (by rfl), ?_⟩
  refine ha ρ G σ H m _ ME M (F.bind fun x G1 m1 x' H1 _ e1 M1 r1 F1 => ?_)
  cases r1 with
  | str z =>
    refine ⟨rfl, ?_⟩
    refine hb ρ G1 σ H1 m1 _ (ME.ext e1) M1 (F1.bind fun y G2 m2 y' H2 _ e2 M2 r2 F2 => ?_)
    obtain ⟨w, hw, F2⟩ := optR_fin F2
    cases r2 with
    | str y =>
      simp only [sidxE, Option.map_eq_some_iff] at hw
      obtain ⟨k, hk, rfl⟩ := hw
      refine ⟨z, y, rfl, rfl, fun j hj => ?_, fun hn => ?_⟩
      · rw [hk] at hj; cases hj; exact Fin.here F2 M2 (.int _)
      · rw [hk] at hn; cases hn
    | _ => cases hw
  | _ => exact F1.elim
theorem s_join {sa : Sx E} {sl : Sx LH} {a l : Expr} {p1 p : Pos} (hbase : attributeBase a "join" X.env (eval a X.env) = eval a X.env) (hs : starEach [l] X.env = [(false, eval l X.env)]) (hl : (p1.endLine == p.line) = true)
    (ha : SE X q W sa a) (hb : SL X q W sl l) : SE X q W (sJoin sa sl) (.Call (.Attribute a "join" p1) [l] [] p) := by
  intro ρ G σ H m Q ME M F
  refine ⟨_, pe_join pe_w pe_w hs hbase hl, ?_⟩
  refine ha ρ G σ H m _ ME M (F.bind fun x G1 m1 x' H1 _ e1 M1 r1 F1 => ?_)
  cases r1 with
  | str z =>
    refine ⟨⟨z, rfl⟩, ?_⟩
    refine hb ρ G1 σ H1 m1 _ (ME.ext e1) M1 (F1.bind fun y G2 m2 y' H2 _ e2 M2 r2 F2 => ?_)
    cases qx : y.get G2 with
    | none => rw [qx] at F2; exact F2.elim
    | some xs =>
      rw [qx] at F2
      obtain ⟨a, vs, rfl, sq, rs⟩ := RL.get r2.1 M2 qx
      simp only [optR_some, R.bind_ok, joinE] at F2
      cases qs : asSs xs with
      | none => rw [qs] at F2; exact F2.elim
      | some ys =>
        rw [qs] at F2
        simp only at F2
        obtain ⟨w, hw, F2⟩ := optR_fin F2
        split at hw
        · rename_i hl
          cases hw
          have e := RVs.sts rs qs
          subst e
          exact ⟨z, a, ys, rfl, rfl, .inl sq, hl, Fin.here F2 M2 (.str _)⟩
        · cases hw
  | _ => exact F1.elim
theorem s_subL {sl : Sx LH} {si : Sx E} {l i : Expr} {p : Pos} (hp : PlainIx i) (ha : SL X q W sl l) (hb : SE X q W si i) : SE X q W (sSubL sl si) (.Subscript l i p) := by
  intro ρ G σ H m Q ME M F
  refine ⟨_, pe_ix ix_list pe_w pe_w hp, ?_⟩
  refine ha ρ G σ H m _ ME M (F.bind fun x G1 m1 x' H1 _ e1 M1 r1 F1 => ?_)
  refine hb ρ G1 σ H1 m1 _ (ME.ext e1) M1 (F1.bind fun y G2 m2 y' H2 _ e2 M2 r2 F2 => ?_)
  cases qx : x.get G2 with
  | none => rw [qx] at F2; exact F2.elim
  | some xs =>
    rw [qx] at F2
    obtain ⟨a, vs, rfl, sq, rs⟩ := RL.get (RL.ext r1.1 e2) M2 qx
    cases r2 with
    | int i =>
      obtain ⟨z, hz, F2⟩ := optR_fin F2
      obtain ⟨w, h1, h2⟩ := rs.atI hz
      exact ⟨a, vs, i, w, rfl, rfl, sq, h1, Fin.here F2 M2 h2⟩
    | _ => exact F2.elim
theorem s_new {sl : Sx LH} {l : Expr} (ha : SL X q W sl l) : SE X q W (sNew sl) l := by
  intro ρ G σ H m Q ME M F
  refine ha ρ G σ H m _ ME M ?_
  unfold sNew at F
  cases qs : sl ρ G with
  | bad => rw [qs] at F; exact F
  | ex c G1 => rw [qs] at F; exact F
  | ok x G1 =>
    rw [qs] at F
    intro m1 x' H1 e1 M1 r1
    cases x with
    | pl n => exact F.elim
    | tmp xs =>
      obtain ⟨⟨a, vs, rfl, h, rs, hn⟩, h0⟩ := r1
      obtain ⟨b, e, h0⟩ := h0 _ rfl
      cases e
      refine F (Mp.add m1 G1.length a) (.ref a) H1 ?_ (M1.add hn ?_) (.ref Mp.add_self)
      · refine ⟨fun n b h => Mp.add_mono M1 n b (e1.mono n b h), e1.stay, e1.tups, fun n b h => ?_, e1.there⟩
        unfold Mp.add at h
        split at h
        · cases h; exact .inr h0
        · exact e1.new n b h
      · exact ⟨vs, h, rs.tr (Mp.add_mono M1) fun _ _ z => z⟩
end
end Lt
end
section
set_option Elab.async false
set_option linter.all false
set_option maxRecDepth 100000
/-! Lt: soundness of expressions: calls, dicts, lambdas that are tried. -/
namespace Lt
open PySem PySem.Spec PyProof.Rows L2
section
variable {X : Cx} {q : Wq} {W : WX} {P : Par} {α β γ δ : Type}
/-! ### calls -/
/-- what a def promises -/
def spF (K : PySem.W.Frag) (q : Wq) (P : Par) (f n : Nat) : Sp := fun vs H Q E => vs.length = n ∧ ∃ m es G, RVs K m H es vs ∧ MtG ⟨K, q.T, q.xc⟩ m H G ∧
  Fin ⟨K, q.T, q.xc⟩ (fun cls d _ H' => E cls d H') [] m H (P.cl f es G) (RV K) Q
theorem Fin.st {D : Wd} {σ σ' : L2.St} {m : Mp} {H : Hp} {r : R α} {rel : Mp → Hp → α → β → Prop} {Q : β → Hp → Prop} {W W' : WX} (h : Fin D W σ m H r rel Q) (hW : ∀ c d H', W c d σ H' → W' c d σ' H') : Fin D W' σ' m H r rel Q := by
  cases r with
  | ok v G => exact h
  | ex c G => exact fun m2 H2 d e2 M => hW _ _ _ (h m2 H2 d e2 M)
  | bad => exact h
theorem s_call {f n k : Nat} {a : Addr} {fd : FuncData} {ps : List Str} {x : Str} {s : Sx (List E)} {e : Expr} {es : List Expr} {p1 p : Pos} (C : CxG X W) (hr : Room k X.A) (Fo : FnOk X.prog X.w X.K X.mg X.base (CX X.prog X.w) k a fd ps (spF X.K q P f n))
    (hg : Gl X x) (hm : X.mg x = some (.ref a)) (hk : PySem.W.keepIn X.K (.ref a) = true) (hb : Binds X.K fd ps []) (hn : ps.length = n) (hd : (x == ("__debug__" : Str)) = false)
    (he : starEach (e :: es) X.env = (false, eval e X.env) :: starEach es X.env) (hpl : (backTo p (starEach es X.env)).any (·.1) = false)
    (hl : ∀ ρ G xs G', s ρ G = .ok xs G' → xs.length = n) (ha : SA X q W s (e :: es)) : SE X q W (sCall P f s) (.Call (.Name x p1) (e :: es) [] p) := by
  intro ρ G σ H m Q ME M F
  refine ⟨_, pe_callSD (E := WE W) Fo hr hg hm hk hb .nil (fun σ => passAt C.tk σ) pa_w hd he hpl, ?_⟩
  refine ha ρ G σ H m _ ME M (F.bind fun xs G1 m1 xs' H1 e0 e1 M1 r1 F1 => ?_)
  show spF X.K q P f n (xs' ++ []) H1 Q (WE W σ)
  rw [List.append_nil]
  exact ⟨by rw [← r1.length]; exact hl _ _ _ _ e0, m1, xs, G1, r1, M1, Fin.st F1 fun _ _ _ h => h⟩
/-! ### a dict's display -/
theorem RKs.zip {K : PySem.W.Frag} {m : Mp} {H : Hp} : ∀ {ks : List Str} {xs : List E} {vs : List V}, RVs K m H xs vs → RKs K m H (ks.zip xs) ((ks.map Sum.inr).zip vs)
  | [], _, _, _ => .nil
  | _ :: _, _, _, .nil => .nil
  | k :: ks, _, _, .cons a r => .cons a (RKs.zip r)
theorem mergeK_nodup : ∀ (kvs acc : List (Key × V)), (∀ kv ∈ kvs, valV acc kv.1 = none) → (kvs.map (·.1)).Nodup → mergeK acc kvs = acc ++ kvs
  | [], acc, _, _ => by simp [mergeK]
  | kv :: r, acc, h, nd => by
    have hn := h kv List.mem_cons_self
    have e : putK acc kv.1 kv.2 = acc ++ [kv] := putK_new _ hn
    rw [List.map_cons, List.nodup_cons] at nd
    have := mergeK_nodup r (acc ++ [kv]) (fun x hx => by
      have hne : ¬ x.1 = kv.1 := fun e => nd.1 (by rw [← e]; exact List.mem_map_of_mem hx)
      have z := valV_snoc kv.1 x.1 kv.2 acc hn
      rw [if_neg hne] at z
      exact z.trans (h x (List.mem_cons_of_mem _ hx))) nd.2
    unfold mergeK at this ⊢
    rw [List.foldl_cons, e, this, List.append_assoc]
    rfl
theorem tPairs.mono {σ : L2.St} : ∀ {trs : List (TE × TE)} {H : Hp} {Q Q' : List (V × V) → Hp → Prop}, (∀ t ∈ trs, ∀ σ H (Q Q' : VK), (∀ v H', Q v H' → Q' v H') → t.1 σ H Q → t.1 σ H Q') → (∀ t ∈ trs, ∀ σ H (Q Q' : VK), (∀ v H', Q v H' → Q' v H') → t.2 σ H Q → t.2 σ H Q') →
    (∀ ps H', Q ps H' → Q' ps H') → tPairs trs σ H Q → tPairs trs σ H Q'
  | [], _, _, _, _, _, k, h => k _ _ h
  | t :: r, _, _, _, m1, m2, k, h => m1 t List.mem_cons_self _ _ _ _ (fun _ _ h => m2 t List.mem_cons_self _ _ _ _ (fun _ _ h => tPairs.mono (fun t ht => m1 t (List.mem_cons_of_mem _ ht)) (fun t ht => m2 t (List.mem_cons_of_mem _ ht)) (fun _ _ h => k _ _ h) h) h) h
/-- the pairs of texts and what is evaluated -/
def trsOf (X : Cx) (ks : List Str) (es : List Expr) : List (TE × TE) := (ks.zip es).map fun p => (tC (.str p.1), wE X p.2)
theorem trsOf.mono {ks : List Str} {es : List Expr} {σ : L2.St} {H : Hp} {Q Q' : List (V × V) → Hp → Prop} (k : ∀ ps H', Q ps H' → Q' ps H') (h : tPairs (trsOf X ks es) σ H Q) : tPairs (trsOf X ks es) σ H Q' := by
  refine tPairs.mono (fun t ht => ?_) (fun t ht => ?_) k h
  · obtain ⟨p, _, rfl⟩ := List.mem_map.mp ht
    exact fun σ H Q Q' k h => k _ _ h
  · obtain ⟨p, _, rfl⟩ := List.mem_map.mp ht
    exact fun σ H Q Q' k h => wE.mono k h
def SPs (X : Cx) (q : Wq) (W : WX) (s : Sx (List E)) (es : List Expr) : Prop := ∀ (ks : List Str) (ρ : Ro) (G : Hq) (σ : L2.St) (H : Hp) (m : Mp) (Q : List V → Hp → Prop), MtE X.K m H ρ σ → MtG (dW X q) m H G → ks.length = es.length →
  Fin (dW X q) W σ m H (s ρ G) (RVs X.K) Q → tPairs (trsOf X ks es) σ H fun ps H' => ∃ vs, ps = (ks.zip vs).map (fun p => (.str p.1, p.2)) ∧ vs.length = ks.length ∧ Q vs H'
theorem sp_nil : SPs X q W sNil [] := fun ks ρ G σ H m Q ME M hl F => by
  have : ks = [] := List.eq_nil_of_length_eq_zero hl
  subst this
  exact ⟨[], rfl, rfl, Fin.here F M .nil⟩
theorem sp_cons {s : Sx E} {u : Sx (List E)} {e : Expr} {r : List Expr} (ha : SE X q W s e) (hr : SPs X q W u r) : SPs X q W (sCons s u) (e :: r) := by
  intro ks ρ G σ H m Q ME M hl F
  cases ks with
  | nil => cases hl
  | cons k ks =>
    show wE X e σ H fun y H2 => tPairs (trsOf X ks r) σ H2 _
    refine ha ρ G σ H m _ ME M (F.bind fun x G1 m1 x' H1 _ e1 M1 r1 F1 => ?_)
    have := hr ks ρ G1 σ H1 m1 _ (ME.ext e1) M1 (by simpa using hl) (F1.bind (Q := fun vs H2 => ∃ w, Q (w :: vs) H2 ∧ w = x') fun xs G2 m2 xs' H2 _ e2 M2 r2 F2 => ⟨x', Fin.here F2 M2 (.cons (r1.ext e2) r2), rfl⟩)
    refine trsOf.mono (fun ps H' h => ?_) this
    obtain ⟨vs, rfl, h1, w, h2, rfl⟩ := h
    exact ⟨w :: vs, rfl, by simp [h1], h2⟩
theorem pps_of {pos : Pos} : ∀ {ks : List (Str × Nat × Pos)} {es : List Expr}, ks.length = es.length → PPs X pos (ks.map fun k => some (.Constant (.str k.1) k.2.1 k.2.2)) es (trsOf X (ks.map (·.1)) es)
  | [], [], _ => pps_nil
  | k :: ks, e :: es, h => pps_cons pe_str pe_w (pps_of (by simpa using h))
  | [], _ :: _, h => by cases h
  | _ :: _, [], h => by cases h
theorem RVs.len {K : PySem.W.Frag} {m : Mp} {H : Hp} {x : List E} {v : List V} (r : RVs K m H x v) : x.length = v.length := r.length
theorem zip_inr : ∀ (ks : List Str) (vs : List V), (ks.zip vs).map (fun p => (V.str p.1, p.2)) = ((ks.map Sum.inr : List Key).zip vs).map (fun kv => (kV kv.1, kv.2))
  | [], _ => rfl
  | _ :: _, [] => rfl
  | k :: ks, v :: vs => by
    simp only [List.zip_cons_cons, List.map_cons, zip_inr ks vs]
    rfl
theorem s_dct {ks : List (Str × Nat × Pos)} {s : Sx (List E)} {es : List Expr} {p : Pos} (hlen : ks.length = es.length) (hc : (ks.map (·.1)) ≠ [] ∧ (ks.map (·.1)).length ≤ 15 ∧ (ks.map (·.1)).Nodup) (ha : SPs X q W s es) : SE X q W (sDct (ks.map (·.1)) s) (.Dict (ks.map fun k => some (.Constant (.str k.1) k.2.1 k.2.2)) es p) := by
  intro ρ G σ H m Q ME M F
  obtain ⟨c1, c2, c3⟩ := hc
  have hne : (ks.map fun k => (some (.Constant (.str k.1) k.2.1 k.2.2) : Option Expr)) ≠ [] := by
    cases ks with
    | nil => exact absurd rfl c1
    | cons _ _ => simp
  refine ⟨_, pe_disp (pps_of hlen) (by simp) (by simpa using hlen) hne (by simpa using c2), fun a hp => ?_⟩
  have e0 : Ext m H m (upd H a (.dK [])) := Ext.junk hp
  have M0 := M.junk (o := .dK []) hp
  have hm : ∀ n, m n ≠ some a := M.ne_none hp
  have := ha (ks.map (·.1)) ρ G σ _ m (fun vs H2 => H2 a = some (.dK []) ∧ Q (.ref a) (upd H2 a (.dK (((ks.map (·.1)).map Sum.inr).zip vs)))) (ME.ext e0) M0 (by simpa using hlen) ?_
  · refine trsOf.mono (fun ps H2 h => ?_) this
    obtain ⟨vs, rfl, h1, h2, h3⟩ := h
    refine ⟨h2, ((ks.map (·.1)).map Sum.inr).zip vs, ?_, ?_, ?_⟩
    · exact zip_inr _ _
    · simp at c2 h1 ⊢
      omega
    · rw [mergeK_nodup _ [] (fun _ _ => rfl), List.nil_append]
      · exact h3
      · rw [List.map_fst_zip (by simp [h1])]
        exact List.Pairwise.map _ (fun a b h e => h (Sum.inr.inj e)) c3
  · unfold sDct at F
    cases qs : s ρ G with
    | bad => rw [qs] at F; exact F
    | ex c G1 => rw [qs] at F; exact Fin.ext (β := V) (rel := RV X.K) (Q := Q) F e0
    | ok xs G1 =>
      rw [qs] at F
      intro m2 vs H2 e2 M2 r2
      simp only [R.bind_ok] at F
      split at F
      · rename_i hif
        have hp2 : H2 a = some (.dK []) := e2.stay a _ upd_same (fun ps z => nomatch z) hm
        have hm2 : ∀ n, m2 n ≠ some a := fun n z => by
          rcases e2.new n a z with z | z
          · exact hm n z
          · exact z.no upd_same fun ps z => nomatch z
        refine ⟨hp2, ?_⟩
        have M3 := M2.put0 (u := .dK (((ks.map (·.1)).map Sum.inr).zip vs)) hm2 hp2 rfl
        refine F (Mp.add m2 G1.length a) (.ref a) _ ?_ (M3.add hm2 ⟨_, upd_same, RKs.zip (r2.tr (Mp.add_mono M2) fun b xs z => ?_)⟩) (.ref Mp.add_self)
        · refine ⟨fun n b h => Mp.add_mono M2 n b (e2.mono n b h), fun b o h ht hb => ?_, fun b xs h => ?_, fun n b h => ?_, fun b h => ?_⟩
          · have hba := ne_of_none h hp
            rw [upd_ne hba]
            exact e2.stay b o (by rw [upd_ne hba]; exact h) ht hb
          · have hba := ne_of_none h hp
            rw [upd_ne hba]
            exact e2.tups b xs (by rw [upd_ne hba]; exact h)
          · unfold Mp.add at h
            split at h
            · cases h; exact .inr (.inl hp)
            · rcases e2.new n b h with z | z
              · exact .inl z
              · exact .inr (e0.there b z)
          · by_cases hba : b = a
            · subst hba; exact .inl hp
            · unfold NT at h
              rw [upd_ne hba] at h
              exact e0.there b (e2.there b h)
        · rw [upd_ne]
          · exact z
          · rintro rfl; rw [z] at hp2; cases hp2
      · exact F.elim
end
end Lt
end
section
set_option Elab.async false
set_option linter.all false
set_option maxRecDepth 100000
/-! Lt: soundness of what is walked, of comprehensions. -/
namespace Lt
open PySem PySem.Spec PyProof.Rows L2
section
variable {X : Cx} {q : Wq} {W : WX} {P : Par} {tg : Expr}
/-- the items, one after another -/
def RI (D : Wd) : Mp → Hp → (List E × Option Nat) → L2.It → Prop := fun m H p J => ∃ (Gd : Hp → Prop) (Y : Nat → Hp → V → Hp → Prop), Walk J p.1.length Gd Y ∧
  (∀ m' H' G', Ext m H m' H' → MtG D m' H' G' → stays p.2 p.1 G' → Gd H') ∧
  (∀ m' H' G' i x H'', i < p.1.length → Ext m H m' H' → MtG D m' H' G' → stays p.2 p.1 G' → Y i H' x H'' → H'' = H' ∧ ∃ e, p.1[i]? = some e ∧ RV D.K m' H' e x)
def wI (X : Cx) (tg it : Expr) : TI := fun σ H R => ∃ wi, PI X tg it wi ∧ wi σ H R
theorem pi_w {it : Expr} : PI X tg it (wI X tg it) := ⟨fun pins s σ H R I ⟨wi, h, q⟩ => h.run pins s σ H R I q⟩
abbrev SI (X : Cx) (q : Wq) (W : WX) (tg : Expr) (s : Sx (List E × Option Nat)) (it : Expr) : Prop := Snd (dW X q) W s (RI (dW X q)) (wI X tg it)
theorem RVs.lt {K : PySem.W.Frag} {m : Mp} {H : Hp} {x : List E} {v : List V} {i : Nat} {w : V} (r : RVs K m H x v) (h : v[i]? = some w) : ∃ e, x[i]? = some e ∧ RV K m H e w := by
  have hi : i < x.length := by rw [r.length]; exact (List.getElem?_eq_some_iff.mp h).1
  obtain ⟨w2, h1, h2⟩ := RVs.get (i := i) r (List.getElem?_eq_getElem hi)
  rw [h] at h1; cases h1
  exact ⟨_, List.getElem?_eq_getElem hi, h2⟩
theorem ri_fix {J : L2.It} {xs : List E} {vs : List V} {m : Mp} {H : Hp} {Gd : Hp → Prop} {D : Wd} (r : RVs D.K m H xs vs) (w : Walk J vs.length Gd (YAt vs)) (hg : ∀ m' H', Ext m H m' H' → Gd H') : RI D m H (xs, none) J := by
  refine ⟨Gd, YAt vs, by rw [show (xs, (none : Option Nat)).1.length = vs.length from r.length]; exact w, fun m' H' G' e _ _ => hg m' H' e, fun m' H' G' i x H'' hi e M _ y => ?_⟩
  obtain ⟨y1, y2⟩ := y
  exact ⟨y1, (r.ext e).lt y2⟩
theorem i_l {s : Sx LH} {e : Expr} (ha : SL X q W s e) : SI X q W tg (sItL s) e := by
  intro ρ G σ H m Q ME M F
  refine ⟨_, pi_list pe_w, ?_⟩
  refine ha ρ G σ H m _ ME M (F.bind fun x G1 m1 x' H1 _ e1 M1 r1 F1 => ?_)
  cases qx : x.get G1 with
  | none => rw [qx] at F1; exact F1.elim
  | some xs =>
    rw [qx] at F1
    obtain ⟨a, vs, rfl, sq, rs⟩ := RL.get r1.1 M1 qx
    refine ⟨a, rfl, ⟨vs, sq⟩, ?_⟩
    cases x with
    | tmp ys =>
      cases qx
      obtain ⟨⟨b, ws, e, h, r, hn⟩, _⟩ := r1
      cases e
      refine Fin.here F1 M1 (ri_fix r walk_list fun m' H' e => .inl (.inl (e.stay _ _ h (fun ps z => nomatch z) hn)))
    | pl n =>
      obtain ⟨⟨b, e, hn⟩, _⟩ := r1
      cases e
      have key : ∀ m' H' G', Ext m1 H1 m' H' → MtG (dW X q) m' H' G' → stays (some n) xs G' → ∃ ws, SqL X.K H' a ws ∧ RVs X.K m' H' xs ws := fun m' H' G' e M' st => by
        obtain ⟨b, ws, e1, h1, h2⟩ := RL.get (X := X) (q := q) (l := .pl n) ⟨a, rfl, e.mono n a hn⟩ M' st
        cases e1
        exact ⟨ws, h1, h2⟩
      refine Fin.here F1 M1 ⟨fun H => ∃ ws, SqL X.K H a ws ∧ ws.length = xs.length, fun i H x H' => (Itl X.K a).yld i H x H', ⟨fun i H hi ⟨ws, h1, h2⟩ => ⟨ws, _, h1, List.getElem?_eq_getElem (by rw [h2]; exact hi)⟩, fun H ⟨ws, h1, h2⟩ => ⟨ws, h1, Nat.le_of_eq h2⟩, fun i H x H' _ _ y => y⟩, fun m' H' G' e M' st => ?_, fun m' H' G' i x H'' hi e M' st y => ?_⟩
      · obtain ⟨ws, h1, h2⟩ := key m' H' G' e M' st
        exact ⟨ws, h1, h2.length.symm⟩
      · obtain ⟨ws, h1, h2⟩ := key m' H' G' e M' st
        obtain ⟨y1, y2⟩ := y
        exact ⟨y1, h2.lt (y2 ws h1)⟩
/-! ### the items of a value, whatever it is -/
def ItR (X : Cx) (tg : Expr) (r : V → Hp → (L2.It → Hp → Prop) → Prop) : Prop :=
  ∀ (pins : List (Addr × Obj)) (s : Shared) (σ : L2.St) (H : Hp) (x : V) (v : Value) (R : L2.It → Hp → Prop), Inv X pins σ H s → RelV x v → r x H R → wpAny (model X.prog X.w) X.A (pyIter v) (PIE X pins σ tg R) X.xe s
def wIr (X : Cx) (tg : Expr) : V → Hp → (L2.It → Hp → Prop) → Prop := fun x H R => ∃ r, ItR X tg r ∧ r x H R
theorem pi_r {e : Expr} {te : TE} (he : PE X e te) : PI X tg e (fun σ H R => te σ H fun x H1 => wIr X tg x H1 R) :=
  ⟨fun pins s σ H R I h => thn (he.run pins s σ H _ I h) fun v s1 ⟨x, H1, I1, r1, r, hr, q⟩ => hr pins s1 σ H1 x v R I1 r1 q⟩
theorem itr_list : ItR X tg (fun x H R => ∃ a, x = .ref a ∧ (∃ xs, SqL X.K H a xs) ∧ R (Itl X.K a) H) := by
  intro pins s1 σ H1 x v R I1 r1 q1
  obtain ⟨a, e, ⟨xs, hq⟩, q⟩ := q1
  subst e
  cases r1
  obtain ⟨its, rv, p, hz⟩ := I1.list hq
  refine wpAny_pyIter_list p.isList ?_
  refine ⟨s1.heap.objs.size, [s1.heap.objs.size], _, _, H1, rfl, I1.kept (t' := s1.toks) fun b o e => Heap.get?_push_of_some _ e, turn_list a _, ⟨_, Heap.get?_push_size _ rfl, rfl, rfl⟩, fun b hb => ?_, q⟩
  have e : b = s1.heap.objs.size := by simpa using hb
  subst e
  exact I1.fpOk (Nat.le_refl _) (I1.hok.fresh (Nat.le_refl _))
theorem itr_tup : ItR X tg (fun x H R => ∃ a, x = .ref a ∧ (∃ xs, SqT X.K H a xs) ∧ R (Itt X.K a) H) := by
  intro pins s1 σ H1 x v R I1 r1 q1
  obtain ⟨a, e, ⟨xs, hq⟩, q⟩ := q1
  subst e
  cases r1
  obtain ⟨its, rv, p, hz⟩ := I1.tuple hq
  refine wpAny_pyIter_tuple (show s1.heap.IsTuple a its.toArray from p) ?_
  refine ⟨s1.heap.objs.size, [s1.heap.objs.size], _, _, H1, rfl, I1.kept (t' := s1.toks) fun b o e => Heap.get?_push_of_some _ e, turn_tuple a _, ⟨_, Heap.get?_push_size _ rfl, rfl, rfl⟩, fun b hb => ?_, q⟩
  have e : b = s1.heap.objs.size := by simpa using hb
  subst e
  exact I1.fpOk (Nat.le_refl _) (I1.hok.fresh (Nat.le_refl _))
theorem itr_str : ItR X tg (fun x H R => ∃ z, x = .str z ∧ R (Its z) H) := by
  intro pins s1 σ H1 y v R I1 r1 q1
  obtain ⟨x, ex, q⟩ := q1
  subst ex
  obtain ⟨t, rfl⟩ := r1
  cases ha : x.cps.all (· < 128)
  · exact wpAny_pyIter_wide ha (pi_one (tk := s1.toks) I1 _ (turn_str _ x t "str_iterator" (.inr rfl)) ⟨_, Heap.get?_push_size _ rfl, rfl, rfl⟩ q)
  · exact wpAny_pyIter_ascii ha (pi_one (tk := s1.toks) I1 _ (turn_str _ x t "str_ascii_iterator" (.inl rfl)) ⟨_, Heap.get?_push_size _ rfl, rfl, rfl⟩ q)
theorem rv_signs {K : PySem.W.Frag} {m : Mp} {H : Hp} : ∀ l : List Nat, RVs K m H (l.map fun c => .str ⟨#[c]⟩) (l.map fun c => V.str ⟨#[c]⟩)
  | [] => .nil
  | c :: l => .cons (.str _) (rv_signs l)
theorem ri_str {D : Wd} {m : Mp} {H : Hp} {z : Str} : RI D m H (signs z, none) (Its z) := by
  refine ri_fix (vs := z.cps.toList.map fun c => V.str ⟨#[c]⟩) (Gd := fun _ => True) (rv_signs _) ?_ fun _ _ _ => True.intro
  have w := walk_str (z := z)
  rw [show (z.cps.toList.map fun c => V.str ⟨#[c]⟩).length = z.cps.size by simp]
  refine w.mono (fun _ h => h) fun i H x H' hi _ y => ?_
  obtain ⟨rfl, c, h1, rfl⟩ := y
  exact ⟨rfl, by rw [List.getElem?_map, Array.getElem?_toList, h1]; rfl⟩
theorem ri_pl {m : Mp} {H : Hp} {n : Nat} {a : Addr} {xs : List E} (hn : m n = some a) : RI (dW X q) m H (xs, some n) (Itl X.K a) := by
  have key : ∀ m' H' G', Ext m H m' H' → MtG (dW X q) m' H' G' → stays (some n) xs G' → ∃ ws, SqL X.K H' a ws ∧ RVs X.K m' H' xs ws := fun m' H' G' e M' st => by
    obtain ⟨b, ws, e1, h1, h2⟩ := RL.get (X := X) (q := q) (l := .pl n) ⟨a, rfl, e.mono n a hn⟩ M' st
    cases e1
    exact ⟨ws, h1, h2⟩
  refine ⟨fun H => ∃ ws, SqL X.K H a ws ∧ ws.length = xs.length, fun i H x H' => (Itl X.K a).yld i H x H', ⟨fun i H hi ⟨ws, h1, h2⟩ => ⟨ws, _, h1, List.getElem?_eq_getElem (by rw [h2]; exact hi)⟩, fun H ⟨ws, h1, h2⟩ => ⟨ws, h1, Nat.le_of_eq h2⟩, fun i H x H' _ _ y => y⟩, fun m' H' G' e M' st => ?_, fun m' H' G' i x H'' hi e M' st y => ?_⟩
  · obtain ⟨ws, h1, h2⟩ := key m' H' G' e M' st
    exact ⟨ws, h1, h2.length.symm⟩
  · obtain ⟨ws, h1, h2⟩ := key m' H' G' e M' st
    obtain ⟨y1, y2⟩ := y
    exact ⟨y1, h2.lt (y2 ws h1)⟩
theorem i_a {s : Sx E} {e : Expr} (ha : SE X q W s e) : SI X q W tg (sItA s) e := by
  intro ρ G σ H m Q ME M F
  refine ⟨_, pi_r pe_w, ?_⟩
  refine ha ρ G σ H m _ ME M (F.bind fun x G1 m1 x' H1 _ e1 M1 r1 F1 => ?_)
  obtain ⟨p, hp, F1⟩ := optR_fin F1
  cases r1 with
  | @tup es a vs t rs =>
    cases hp
    exact ⟨_, itr_tup, a, rfl, ⟨vs, t.sq⟩, Fin.here F1 M1 (ri_fix rs walk_tup fun m' H' e => (t.ext e).sq)⟩
  | str z =>
    cases hp
    exact ⟨_, itr_str, z, rfl, Fin.here F1 M1 ri_str⟩
  | @ref n a hn =>
    simp only [itE, Option.map_eq_some_iff] at hp
    obtain ⟨xs, hx, rfl⟩ := hp
    obtain ⟨b, vs, eb, sq, rs⟩ := RL.get (X := X) (q := q) (l := .pl n) ⟨a, rfl, hn⟩ M1 hx
    cases eb
    exact ⟨_, itr_list, a, rfl, ⟨vs, sq⟩, Fin.here F1 M1 (ri_pl hn)⟩
  | _ => cases hp
theorem rv_rng {K : PySem.W.Frag} {m : Mp} {H : Hp} (lo : Int) : ∀ l : List Nat, RVs K m H (l.map fun (k : Nat) => .int (lo + (k : Int))) (l.map fun (k : Nat) => V.int (lo + (k : Int)))
  | [] => .nil
  | c :: l => .cons (.int _) (rv_rng lo l)
theorem ri_rng {D : Wd} {m : Mp} {H : Hp} {lo : Int} {n : Nat} : RI D m H (rng lo n, none) (Itr lo n) := by
  refine ri_fix (vs := (List.range n).map fun (k : Nat) => V.int (lo + (k : Int))) (Gd := fun _ => True) (rv_rng lo _) ?_ fun _ _ _ => True.intro
  have w := walk_range (lo := lo) (n := n)
  rw [show ((List.range n).map fun (k : Nat) => V.int (lo + (k : Int))).length = n by simp]
  refine w.mono (fun _ h => h) fun i H x H' hi _ y => ?_
  obtain ⟨rfl, rfl⟩ := y
  exact ⟨rfl, by rw [List.getElem?_map, List.getElem?_range hi]; rfl⟩
theorem in62_of {i : Int} (h : in62 i = true) : -(2 ^ 62) ≤ i ∧ i < 2 ^ 62 := by simpa [in62] using h
theorem RV.intE {K : PySem.W.Frag} {m : Mp} {H : Hp} {x : E} {v : V} {i : Int} (r : RV K m H x v) (h : intE x = some i) : v = .int i := by
  cases r <;> cases h; rfl
theorem i_r1 {s : Sx E} {a : Expr} {p1 p : Pos} (hg : Gl X "range") (hm : X.mg "range" = none) (hs : starEach [a] X.env = [(false, eval a X.env)]) (ha : SE X q W s a) : SI X q W tg (sItR1 s) (.Call (.Name "range" p1) [a] [] p) := by
  intro ρ G σ H m Q ME M F
  refine ⟨_, pi_range1 hg hm (pa_cons pe_w pa_nil hs) hs, ?_⟩
  refine ha ρ G σ H m _ ME M (F.bind fun x G1 m1 x' H1 _ e1 M1 r1 F1 => ?_)
  cases qi : intE x with
  | none => rw [qi] at F1; exact F1.elim
  | some i =>
    rw [qi] at F1
    simp only [optR_some, R.bind_ok] at F1
    split at F1
    · rename_i h62
      exact ⟨i, by rw [r1.intE qi], (in62_of h62).1, (in62_of h62).2, Fin.here F1 M1 ri_rng⟩
    · exact F1.elim
theorem i_r2 {sa sb : Sx E} {a b : Expr} {p1 p : Pos} (hg : Gl X "range") (hm : X.mg "range" = none) (hs : starEach [a, b] X.env = [(false, eval a X.env), (false, eval b X.env)]) (hs2 : starEach [b] X.env = [(false, eval b X.env)]) (ha : SE X q W sa a) (hb : SE X q W sb b) :
    SI X q W tg (sItR2 sa sb) (.Call (.Name "range" p1) [a, b] [] p) := by
  intro ρ G σ H m Q ME M F
  refine ⟨_, pi_range2 hg hm (pa_cons pe_w (pa_cons pe_w pa_nil hs2) (by rw [hs, hs2])) hs hs2, ?_⟩
  refine ha ρ G σ H m _ ME M (F.bind fun x G1 m1 x' H1 _ e1 M1 r1 F1 => ?_)
  refine hb ρ G1 σ H1 m1 _ (ME.ext e1) M1 (F1.bind fun y G2 m2 y' H2 _ e2 M2 r2 F2 => ?_)
  cases qi : intE x with
  | none => rw [qi] at F2; exact F2.elim
  | some i =>
    cases qj : intE y with
    | none => rw [qi, qj] at F2; exact F2.elim
    | some j =>
      rw [qi, qj] at F2
      simp only [optR_some, R.bind_ok] at F2
      split at F2
      · rename_i h62
        rw [Bool.and_eq_true] at h62
        exact ⟨i, j, by rw [r1.intE qi, r2.intE qj], ⟨(in62_of h62.1).1, (in62_of h62.1).2, (in62_of h62.2).1, (in62_of h62.2).2⟩, Fin.here F2 M2 ri_rng⟩
      · exact F2.elim
end
end Lt
end
section
set_option Elab.async false
set_option linter.all false
set_option maxRecDepth 100000
/-! Lt: soundness of targets and comprehensions. -/
namespace Lt
open PySem PySem.Spec PyProof.Rows L2
section
variable {X : Cx} {q : Wq} {W : WX} {P : Par}
def gNs : List Nm → TGs
  | [] => gNil
  | n :: r => gCons (gName n.i) (gNs r)
def gTg (K : PySem.W.Frag) : Tg → TG
  | .name n => gName n.i
  | .tup ns _ _ => gTup K ns.length (gNs ns)
def Tg.slots : Tg → List Nat
  | .name n => [n.i]
  | .tup ns _ _ => ns.map (·.i)
def Tg.nms : Tg → List Nm
  | .name n => [n]
  | .tup ns _ _ => ns
/-- a name that may be stored -/
def NmOk (X : Cx) (n : Nm) : Prop := X.N[n.i]? = some n.x ∧ Loc X.env.scope n.x ∧ (X.fn n.x = true ∨ X.env.scope.names.lookup n.x = some .local)
theorem pg_nm {n : Nm} (hN : X.N.Nodup) (h : NmOk X n) : PG X n.py (gName n.i) := pg_name hN h.1 h.2.1 h.2.2
theorem each_nms (env : Env) : ∀ ns : List Nm, (assignEach (ns.map Nm.py) env).findIdx? (·.1) = none ∧ (assignEach (ns.map Nm.py) env).length = ns.length
  | [] => ⟨rfl, rfl⟩
  | n :: r => by
    have h := each_nms env r
    have e : assignEach ((n :: r).map Nm.py) env = (false, assign n.py env) :: assignEach (r.map Nm.py) env := by rfl
    rw [e]
    constructor
    · rw [List.findIdx?_cons, h.1]; rfl
    · rw [List.length_cons, h.2]; rfl
theorem pgs_nms (hN : X.N.Nodup) : ∀ {ns : List Nm}, (∀ n ∈ ns, NmOk X n) → PGs X (ns.map Nm.py) (gNs ns)
  | [], _ => pgs_nil
  | n :: r, h => pgs_cons (pg_nm hN (h n List.mem_cons_self)) (pgs_nms hN fun n hn => h n (List.mem_cons_of_mem _ hn)) (by rfl)
theorem pg_tg {t : Tg} (hc : X.calm = true) (hN : X.N.Nodup) (h : ∀ n ∈ t.nms, NmOk X n) : PG X t.py (gTg X.K t) := by
  cases t with
  | name n => exact pg_nm hN (h n (List.mem_cons_self))
  | tup ns k p => exact pg_tup hc (pgs_nms hN h) (each_nms _ ns).2 (each_nms _ ns).1
theorem wipe_set {σ : L2.St} {i : Nat} {v : Option V} : ∀ {vs : List Nat}, i ∈ vs → wipe (σ.set i v) vs = wipe σ vs
  | [], h => by cases h
  | j :: vs, h => by
    unfold wipe
    by_cases hj : i ∈ vs
    · rw [wipe_set hj]
    · have e : i = j := by
        rcases List.mem_cons.mp h with z | z
        · exact z
        · exact absurd z hj
      subst e
      have key : ∀ vs : List Nat, i ∉ vs → wipe (σ.set i v) vs = (wipe σ vs).set i v := by
        intro vs
        induction vs with
        | nil => intro _; rfl
        | cons k vs ih =>
          intro hk
          unfold wipe
          rw [ih fun z => hk (List.mem_cons_of_mem _ z), List.set_comm]
          exact fun e => hk (e ▸ List.mem_cons_self)
      rw [key vs hj, List.set_set]
theorem ns_ok {K : PySem.W.Frag} {m : Mp} {H : Hp} {Q : L2.St → Hp → Prop} : ∀ {ns : List Nm} {es : List E} {vs : List V} {ρ ρ1 : Ro} {σ : L2.St}, setAll ns es ρ = some ρ1 → RVs K m H es vs → MtE K m H ρ σ →
    (∀ σ1, MtE K m H ρ1 σ1 → (∀ ws : List Nat, (∀ n ∈ ns, n.i ∈ ws) → wipe σ1 ws = wipe σ ws) → Q σ1 H) → gNs ns vs σ H Q
  | [], [], _, ρ, ρ1, σ, h, .nil, ME, k => by cases h; exact ⟨rfl, k σ ME fun _ _ => rfl⟩
  | n :: ns, e :: es, _, ρ, ρ1, σ, h, .cons a r, ME, k => ⟨_, _, rfl, ns_ok (ns := ns) h r (ME.set a) fun σ1 M1 hw => k σ1 M1 fun ws hws => by
      rw [hw ws fun n hn => hws n (List.mem_cons_of_mem _ hn), wipe_set (hws n List.mem_cons_self)]⟩
  | [], _ :: _, _, _, _, _, h, _, _, _ => by cases h
  | _ :: _, [], _, _, _, _, h, _, _, _ => by cases h
theorem setAll_len : ∀ {ns : List Nm} {es : List E} {ρ ρ1 : Ro}, setAll ns es ρ = some ρ1 → es.length = ns.length
  | [], [], _, _, _ => rfl
  | _ :: ns, _ :: es, _, _, h => by rw [List.length_cons, List.length_cons, setAll_len (ns := ns) h]
  | [], _ :: _, _, _, h => by cases h
  | _ :: _, [], _, _, h => by cases h
theorem tg_ok {K : PySem.W.Frag} {m : Mp} {H : Hp} {Q : L2.St → Hp → Prop} {t : Tg} {x : E} {v : V} {ρ ρ1 : Ro} {σ : L2.St} (h : t.set x ρ = some ρ1) (r : RV K m H x v) (ME : MtE K m H ρ σ)
    (k : ∀ σ1, MtE K m H ρ1 σ1 → (∀ ws : List Nat, (∀ n ∈ t.nms, n.i ∈ ws) → wipe σ1 ws = wipe σ ws) → Q σ1 H) : gTg K t v σ H Q := by
  cases t with
  | name n => cases h; exact k _ (ME.set r) fun ws hw => wipe_set (hw n List.mem_cons_self)
  | tup ns k' p =>
    cases r with
    | @tup es a vs ta rs =>
      exact ⟨a, vs, rfl, ta.sq, by rw [← rs.length]; exact setAll_len h, ns_ok h rs ME k⟩
    | _ => cases h
theorem MtE.unset {K : PySem.W.Frag} {m : Mp} {H : Hp} {ρ : Ro} {σ : L2.St} {i : Nat} (h : MtE K m H ρ σ) : MtE K m H (ρ.set i none) (σ.set i none) := by
  refine ⟨by rw [List.length_set, List.length_set, h.1], fun j x q => ?_⟩
  by_cases hj : i = j
  · subst hj
    have hl : i < ρ.length := by
      have := (List.getElem?_eq_some_iff.mp q).1
      simpa using this
    rw [List.getElem?_set_self hl] at q
    cases q
  · rw [List.getElem?_set_ne hj] at q ⊢
    exact h.2 j x q
theorem MtE.wipe {K : PySem.W.Frag} {m : Mp} {H : Hp} {ρ : Ro} {σ : L2.St} (h : MtE K m H ρ σ) : ∀ vs : List Nat, MtE K m H (wipeR ρ vs) (L2.wipe σ vs)
  | [] => h
  | v :: vs => (MtE.wipe h vs).unset
/-! ### comprehensions -/
abbrev blk (X : Cx) (s : Shared) (H : Hp) (scope : Scope) (C : Addr) (cl : List (Str × Addr)) (fp : List Addr) : Cx := X.blk s H scope (compEnvC scope cl C X.env) fp
theorem R.nox_ok {α : Type} {r : R α} {a : α} {G : Hq} (h : r.nox = .ok a G) : r = .ok a G := by
  cases r <;> first | exact h | cases h
def W0 : WX := fun _ _ _ _ => False
/-- of a result that comes -/
theorem Fin.of_ok {D : Wd} {W : WX} {σ : L2.St} {α β : Type} {m : Mp} {H : Hp} {r : R α} {rel : Mp → Hp → α → β → Prop} {Q : β → Hp → Prop} {v : α} {G : Hq} (e : r = .ok v G) (h : ∀ m' v' H', Ext m H m' H' → MtG D m' H' G → rel m' H' v v' → Q v' H') : Fin D W σ m H r rel Q := by
  subst e; exact h
/-- the state at a turn -/
def LcAt (D : Wd) (W : WX) (σ : L2.St) (m1 : Mp) (H1 H0 : Hp) (L : Addr) (ρ : Ro) (st : Option Nat) (all : List E) (t : Tg) (c : Sx Bool) (e : Sx E) (Q : V → Hp → Prop) (i : Nat) (H : Hp) : Prop :=
  ∃ m' G' acc accV, Ext m1 H1 m' H ∧ MtG D m' H G' ∧ H L = some (.lst accV) ∧ RVs D.K m' H acc accV ∧ (∀ n, m' n ≠ some L) ∧
    Fin D W σ m1 H1 ((lcS st all t c e ρ (all.drop i) acc G').bind fun ys G2 => .ok (LH.tmp ys) G2) (RLn D.K H0) Q
theorem lc_bad {D : Wd} {W : WX} {σ : L2.St} {α β γ : Type} {m : Mp} {H : Hp} {b : Bool} {r : R γ} {f : γ → Hq → R α} {rel : Mp → Hp → α → β → Prop} {Q : β → Hp → Prop} (h : Fin D W σ m H ((if b = true then r else .bad).bind f) rel Q) : b = true ∧ Fin D W σ m H (r.bind f) rel Q := by
  cases b with
  | true => exact ⟨rfl, h⟩
  | false => exact h.elim
end
end Lt
end
section
set_option Elab.async false
set_option linter.all false
set_option maxRecDepth 100000
/-! Lt: soundness of comprehensions. -/
namespace Lt
open PySem PySem.Spec PyProof.Rows L2
section
variable {X : Cx} {q : Wq} {W : WX} {P : Par}
theorem wipe_get (σ : L2.St) : ∀ (vs : List Nat) (j : Nat), (L2.wipe σ vs)[j]? = if j ∈ vs then σ[j]?.map (fun _ => none) else σ[j]?
  | [], j => by simp [L2.wipe]
  | v :: vs, j => by
    unfold L2.wipe
    by_cases hj : v = j
    · subst hj
      rw [if_pos List.mem_cons_self]
      by_cases hl : v < σ.length
      · rw [List.getElem?_set_self (by rw [wipe_length]; exact hl), List.getElem?_eq_getElem hl]; rfl
      · rw [List.getElem?_eq_none (by rw [List.length_set, wipe_length]; omega), List.getElem?_eq_none (by omega)]; rfl
    · rw [List.getElem?_set_ne hj, wipe_get σ vs j]
      by_cases hm : j ∈ vs
      · rw [if_pos hm, if_pos (List.mem_cons_of_mem _ hm)]
      · rw [if_neg hm, if_neg (fun z => by rcases List.mem_cons.mp z with z | z; exact hj z.symm; exact hm z)]
theorem wipe_wipe (σ : L2.St) (vs : List Nat) : L2.wipe (L2.wipe σ vs) vs = L2.wipe σ vs := by
  apply List.ext_getElem?
  intro j
  rw [wipe_get, wipe_get]
  by_cases hm : j ∈ vs
  · rw [if_pos hm, if_pos hm, Option.map_map]; rfl
  · rw [if_neg hm, if_neg hm]
def wTs (X : Cx) (ifs : List Expr) : TT := fun σ H Q => ∃ t, PTs X ifs t ∧ t σ H Q
theorem pts_w {ifs : List Expr} : PTs X ifs (wTs X ifs) := ⟨fun pins s σ H Q I ⟨t, h, q⟩ => h.run pins s σ H Q I q⟩
theorem lcS_stays {D : Wd} {σ : L2.St} {m : Mp} {H : Hp} {st : Option Nat} {all r : List E} {t : Tg} {c : Sx Bool} {e : Sx E} {ρ : Ro} {acc : List E} {G : Hq} {α β : Type} {f : List E → Hq → R α} {rel : Mp → Hp → α → β → Prop} {Q : β → Hp → Prop}
    (h : Fin D W σ m H ((lcS st all t c e ρ r acc G).bind f) rel Q) : staysB st all G = true := by
  cases r with
  | nil => unfold lcS at h; exact (lc_bad h).1
  | cons x r => unfold lcS at h; exact (lc_bad h).1
def bT (X : Cx) (scope : Scope) (ifs : List Expr) : TT := fun σ H Q => ∀ s H0 C cl fp, wTs (blk X s H0 scope C cl fp) ifs σ H Q
def bE (X : Cx) (scope : Scope) (e : Expr) : TE := fun σ H Q => ∀ s H0 C cl fp, wE (blk X s H0 scope C cl fp) e σ H Q
theorem lc_rd {it : Sx (List E × Option Nat)} {c : Sx Bool} {e : Sx E} {t : Tg} {elt iter : Expr} {ifs : List Expr} {scope : Scope} {own : List (Str × Nat)}
    (hi : SI X q W t.py it iter) (hsl : ∀ n ∈ t.nms, n.i ∈ own.map (·.2))
    (hc : ∀ s H C cl fp, Snd (dW X q) W0 c RB (wTs (blk X s H scope C cl fp) ifs)) (he : ∀ s H C cl fp, SE (blk X s H scope C cl fp) q W0 e elt)
    {ρ : Ro} {G : Hq} {σ : L2.St} {H : Hp} {m : Mp} {Q : VK} (ME : MtE X.K m H ρ σ) (M : MtG (dW X q) m H G) (F : Fin (dW X q) W σ m H (sLc it t c e (own.map (·.2)) ρ G) (RLn X.K H) Q) :
    tLc (wI X t.py iter) (gTg X.K t) (bT X scope ifs) (bE X scope elt) (own.map (·.2)) σ H Q := by
  refine hi ρ G σ H m _ ME M (F.bind fun xs G1 m1 J H1 _ e1 M1 r1 F1 => ?_)
  intro L hL
  obtain ⟨Gd, Y, w, hG, hY⟩ := r1
  have st0 : ∀ {i H'}, LcAt (dW X q) W σ m1 H1 H L (wipeR ρ (own.map (·.2))) xs.2 xs.1 t c e Q i H' → ∃ m' G', Ext m1 H1 m' H' ∧ MtG (dW X q) m' H' G' ∧ stays xs.2 xs.1 G' := fun {i H'} h => by
    obtain ⟨m', G', acc, accV, h1, h2, h3, h4, h5, h6⟩ := h
    exact ⟨m', G', h1, h2, staysB_of (lcS_stays h6)⟩
  refine lc_it (g := gTg X.K t) (tt := bT X scope ifs) (te := bE X scope elt) (vs := own.map (·.2)) (σ := σ) (H1 := H1) (D := L) (Qd := Q (.ref L)) w (Pv := LcAt (dW X q) W σ m1 H1 H L (wipeR ρ (own.map (·.2))) xs.2 xs.1 t c e Q) ?_ ?_ ?_ ?_
  · refine ⟨m1, G1, [], [], Ext.junk hL, M1.junk hL, upd_same, .nil, M1.ne_none hL, ?_⟩
    rw [List.drop_zero]
    exact F1
  · intro i H' _ h
    obtain ⟨m', G', h1, h2, h3⟩ := st0 h
    exact hG m' H' G' h1 h2 h3
  · intro i x H2 H3 hi2 h hy
    have h0 := h
    obtain ⟨m', G', acc, accV, x1, x2, x3, x4, x5, x6⟩ := h
    have hst := staysB_of (lcS_stays x6)
    obtain ⟨rfl, y, hy1, hy2⟩ := hY m' H2 G' i x H3 hi2 x1 x2 hst hy
    have hd : xs.1.drop i = y :: xs.1.drop (i + 1) := by
      have := List.getElem?_eq_some_iff.mp hy1
      obtain ⟨hl, he⟩ := this
      rw [List.drop_eq_getElem_cons hl, he]
    rw [hd] at x6
    unfold lcS at x6
    have x7 := (lc_bad x6).2
    cases hset : t.set y (wipeR ρ (own.map (·.2))) with
    | none => rw [hset] at x7; exact x7.elim
    | some ρ1 =>
      rw [hset] at x7
      simp only [optR_some, R.bind_ok] at x7
      refine tg_ok hset hy2 ((ME.ext (e1.trans x1)).wipe _) fun σ1 ME1 hw => ⟨by rw [hw _ hsl, wipe_wipe], fun s H0 C0 cl fp => ?_⟩
      refine hc s H0 C0 cl fp ρ1 G' σ1 H3 m' _ ME1 x2 ?_
      cases hcr : (c ρ1 G').nox with
      | bad => rw [hcr] at x7; exact x7.elim
      | ex k G2 => cases hq : c ρ1 G' <;> rw [hq] at hcr <;> cases hcr
      | ok b G2 =>
        rw [hcr] at x7
        simp only [R.bind_ok] at x7
        refine Fin.of_ok (R.nox_ok hcr) fun m2 b' H4 e2 M2 rb => ?_
        cases rb
        have x8 := x7
        have hL2 : H4 L = some (.lst accV) := e2.stay L _ x3 (fun ps z => nomatch z) x5
        have hm2 : ∀ n, m2 n ≠ some L := fun n z => by
          rcases e2.new n L z with z | z
          · exact x5 n z
          · exact z.no x3 fun ps z => nomatch z
        cases b with
        | false =>
          rw [if_neg (by decide)] at x8
          exact ⟨m2, G2, acc, accV, x1.trans e2, M2, hL2, x4.ext e2, hm2, x8⟩
        | true =>
          rw [if_pos rfl] at x8
          show bE X scope elt σ1 H4 _
          intro s H0 C0 cl fp
          refine he s H0 C0 cl fp ρ1 G2 σ1 H4 m2 _ (ME1.ext e2) M2 ?_
          cases her : (e ρ1 G2).nox with
          | bad => rw [her] at x8; exact x8.elim
          | ex k G3 => cases hq : e ρ1 G2 <;> rw [hq] at her <;> cases her
          | ok v G3 =>
            rw [her] at x8
            simp only [R.bind_ok] at x8
            refine Fin.of_ok (R.nox_ok her) fun m3 v' H5 e3 M3 rv => ?_
            have x9 := x8
            have hL3 : H5 L = some (.lst accV) := e3.stay L _ hL2 (fun ps z => nomatch z) hm2
            have hm3 : ∀ n, m3 n ≠ some L := fun n z => by
              rcases e3.new n L z with z | z
              · exact hm2 n z
              · exact z.no hL2 fun ps z => nomatch z
            split at x9
            · rename_i hlen
              have ra := (x4.ext e2).ext e3
              refine ⟨accV, hL3, by rw [← ra.length]; exact hlen, ?_⟩
              have tup : ∀ b xs, H5 b = some (.tup xs) → upd H5 L (.lst (accV ++ [v'])) b = some (.tup xs) := fun b xs z => by
                rw [upd_ne]
                · exact z
                · rintro rfl; rw [z] at hL3; cases hL3
              have E3 := (x1.trans e2).trans e3
              have E4 : Ext m1 H1 m3 (upd H5 L (.lst (accV ++ [v']))) := by
                refine ⟨E3.mono, fun a o h ht hn => ?_, fun a xs h => tup a xs (E3.tups a xs h), E3.new, fun a h => ?_⟩
                · rw [upd_ne (ne_of_none h hL)]; exact E3.stay a o h ht hn
                · by_cases ha : a = L
                  · subst ha; exact .inl hL
                  · unfold NT at h; rw [upd_ne ha] at h; exact E3.there a h
              refine ⟨m3, G3, acc ++ [v], accV ++ [v'], E4, M3.put0 hm3 hL3 rfl, upd_same, (ra.append (.cons rv .nil)).tr (fun _ _ z => z) tup, hm3, ?_⟩
              exact x9
            · exact x9.elim
  · intro H' h
    obtain ⟨m', G', acc, accV, x1, x2, x3, x4, x5, x6⟩ := h
    rw [List.drop_length] at x6
    unfold lcS at x6
    have x7 := (lc_bad x6).2
    exact Fin.to x7 x1 x2 ⟨⟨L, accV, rfl, x3, x4, x5⟩, fun _ _ => ⟨L, rfl, e1.there L (.inl hL)⟩⟩
theorem bT_ok {scope : Scope} {ifs : List Expr} (s : Shared) (H0 : Hp) (C0 : Addr) (cl : List (Str × Addr)) (fp : List Addr) : PTs (blk X s H0 scope C0 cl fp) ifs (bT X scope ifs) := ⟨fun pins s' σ H Q I h => by
  obtain ⟨t, ht, q⟩ := h s H0 C0 cl fp
  exact ht.run pins s' σ H Q I q⟩
theorem bE_ok {scope : Scope} {e : Expr} (s : Shared) (H0 : Hp) (C0 : Addr) (cl : List (Str × Addr)) (fp : List Addr) : PE (blk X s H0 scope C0 cl fp) e (bE X scope e) := ⟨fun pins s' σ H Q I h => by
  obtain ⟨t, ht, q⟩ := h s H0 C0 cl fp
  exact ht.run pins s' σ H Q I q⟩
theorem l_lc {it : Sx (List E × Option Nat)} {c : Sx Bool} {e : Sx E} {t : Tg} {elt iter : Expr} {ifs : List Expr} {scope : Scope} {own : List (Str × Nat)} {p : Pos} (C : CxG X W) (ok : BlkOk X.N X.env.scope scope own)
    (hi : SI X q W t.py it iter) (hnm : ∀ s H C cl fp, ∀ n ∈ t.nms, NmOk (blk X s H scope C cl fp) n) (hsl : ∀ n ∈ t.nms, n.i ∈ own.map (·.2))
    (hc : ∀ s H C cl fp, Snd (dW X q) W0 c RB (wTs (blk X s H scope C cl fp) ifs)) (he : ∀ s H C cl fp, SE (blk X s H scope C cl fp) q W0 e elt) (hs : ∀ x, foldedSetIterable iter X.env x = pure x) :
    SL X q W (sLc it t c e (own.map (·.2))) (.ListComp elt [⟨t.py, iter, ifs, 0⟩] scope p) := fun ρ G σ H m Q ME M F =>
  ⟨_, pe_lc C.calm C.nd pi_w ok (fun s H0 C0 cl fp => pg_tg (X := blk X s H0 scope C0 cl fp) C.calm C.nd (hnm s H0 C0 cl fp)) bT_ok bE_ok hs, lc_rd hi hsl hc he ME M F⟩
end
end Lt
end
section
set_option Elab.async false
set_option linter.all false
set_option maxRecDepth 100000
/-! Lt: soundness of a lambda that is handed to a def that tries it. -/
namespace Lt
open PySem PySem.Spec PyProof.Rows L2
section
variable {X : Cx} {q : Wq} {W : WX} {P : Par}
/-- try: a() / except x: return True // return False -/
def TTref (K : PySem.W.Frag) (CS : Addr) : (XK → Hp → VK → Prop) → Hp → VK → Prop := fun tl H Q =>
  tl (fun cls _ H' => ∃ b, PySem.W.exmOne K cls (.ref CS) = some b ∧ (b = true → Q (.bl true) H') ∧ (b = false → False)) H fun _ H' => Q (.bl false) H'
theorem refd_gives {Ng : List Str} {x a e qq : Str} {sg : Scope} {g CS : Addr} {cdg : Value} {j j2 : Nat} {p1 p2 p3 p4 p5 p6 p7 p8 p9 p10 : Pos} (hge : sg.names.lookup e = some .globalImplicit) (hme : X.mg e = some (.ref CS)) (hde : (e == ("__debug__" : Str)) = false) (h0 : ∀ f : Addr, (L2.start Ng [V.ref f])[0]? = some (some (V.ref f))) :
    LamX.GivesTo X Ng x sg g cdg [.Try [.Expr (.Call (.Name a p1) [] [] p2) p3] [.ExceptHandler (some (.Name e p4)) none [.Return (some (.Constant (.bool true) j p5)) p6] p7] [] [] p8, .Return (some (.Constant (.bool false) j2 p9)) p10] a qq (TTref X.K CS) := by
  intro f c' s H Q tl act hc h
  have hgl : Gl (cxOf C8.CX0 X.prog X.w X.K X.mg X.base Ng x sg g cdg X.A X.stack s H C8.E0).nox e := hge
  refine ⟨_, pss_cons (ps_try_only (X := (cxOf C8.CX0 X.prog X.w X.K X.mg X.base Ng x sg g cdg X.A X.stack s H C8.E0).nox) (c := .ref CS)
      (tb := fun W D σ H => ∃ Ech : XK, (∀ cls d σ' H', Ech cls d H' → W cls d σ' H') ∧ σ[0]? = some (some (.ref f)) ∧ H c' = some (LamX.CodeO c' qq) ∧ tl Ech H fun _ H' => D.nx σ H')
      rfl rfl ⟨hgl, hde, .inl hme⟩ LamX.takes0 (fun W pn xe tk _ => ?_) (fun a oe cls d pn _ _ => pss_one (ps_ret pe_bl))) (pss_one (ps_ret pe_bl)), ?_⟩
  · refine ⟨fun pins s' σ H' D I h' => ?_⟩
    obtain ⟨Ech, hW, h1, h2, h3⟩ := h'
    have hp := act W pn xe Ech p1 p2 tk hW
    have hq := pss_one (ps_expr (pos := p3) hp)
    exact hq.run pins s' σ H' D I ⟨h1, h2, h3⟩
  · exact ⟨fun cls _ H' => ∃ b, PySem.W.exmOne X.K cls (.ref CS) = some b ∧ (b = true → Q (.bl true) H') ∧ (b = false → False), fun cls d σ' H' ⟨b, e1, e2, e3⟩ => ⟨b, e1, fun hb a _ => e2 hb, fun hb => e3 hb⟩, h0 f, hc, h⟩
theorem s_refd {gi : Nat} {x a e : Str} {pg params : Arguments} {sg scope : Scope} {g CS c Pt : Addr} {fd : FuncData} {Ng : List Str} {j j2 k : Nat} {p1 p2 p3 p4 p5 p6 p7 p8 p9 p10 lp cp lpos : Pos} {sa : Sx E} {body : Expr}
    (FD : FunD X.K x x pg [.Try [.Expr (.Call (.Name a p1) [] [] p2) p3] [.ExceptHandler (some (.Name e p4)) none [.Return (some (.Constant (.bool true) j p5)) p6] p7] [] [] p8, .Return (some (.Constant (.bool false) j2 p9)) p10] sg [] [] g fd)
    (hb : L2.Binds X.K fd [a] []) (hg : Gl X x) (hm : X.mg x = some (.ref g)) (Sg : FnScope Ng [a] sg) (hNg : Ng[0]? = some a) (hva : Vis sg a) (hge : sg.names.lookup e = some .globalImplicit) (hme : X.mg e = some (.ref CS)) (hde : (e == ("__debug__" : Str)) = false)
    (h0 : ∀ f : Addr, (L2.start Ng [V.ref f])[0]? = some (some (V.ref f))) (hrf : ∀ cc, P.rf gi cc = true → PySem.W.exmOne X.K (q.xc cc) (.ref CS) = some true)
    (TB : LamX.TabB X.base X.mg c Pt) (hcode : X.env.code = .ref c) (hmT : (Pt, X.env.qual ++ "<lambda>") ∈ q.T) (hu : ∀ p ∈ q.T, p.1 = Pt → p.2 = X.env.qual ++ "<lambda>") (hr : Room (k + 2) X.A) (L : LamX.LamS X.env.scope scope) (hdef : defaultsOf params X.env = ([], []))
    (hbind : ∀ (q : Str) (cl : List (Str × Addr)) (pm cv ctv : Value), bindArgs (PySem.W.kla_fn "<lambda>" q params body scope cl pm cv ctv) ⟨[], []⟩ = pure [])
    (hdb : (x == ("__debug__" : Str)) = false) (hd : (a == ("__debug__" : Str)) = false) (hcd : (a == ("__classdict__" : Str)) = false)
    (hB : ∀ (A : Around) (outer : List Env) (s : Shared) (H : Hp) (E : XK) (f c' : Addr), Room k (A.deeper (LamX.lamEnv X scope s.heap.objs.size f c')) → SE (LamX.lamCx X A outer s H E scope f c') q (fun cls d _ H' => E cls d H') sa body) :
    SE X q W (sRefd P gi sa) (.Call (.Name x cp) [.Lambda params body scope lpos] [] lp) := by
  intro ρ G σ H m Q ME M F
  obtain ⟨oc, od, dV, kV, doc, pm, an, cdv, ct, osl, rfl, lk, hcg, _, _⟩ := FD.ex
  refine ⟨_, LamX.pe_lamcall (T := q.T) (TT := TTref X.K CS) (k := k) (t := fun E σ H Q => ∀ A outer s H0 f c', Room k (A.deeper (LamX.lamEnv X scope s.heap.objs.size f c')) → wE (LamX.lamCx X A outer s H0 E scope f c') body σ H Q) hg hm FD.kp lk hcg hb Sg hNg hva (refd_gives hge hme hde h0) TB hcode hmT hu hr L hdef hbind
    (fun A outer s H E f c' hr2 => ⟨fun pins s' σ H Q I h => by
      obtain ⟨t, ht, q⟩ := h A outer s _ f c' hr2
      exact ht.run pins s' σ H Q I q⟩) hdb hd hcd, ?_⟩
  refine ⟨M.tab, fun H1 eN T1 => ?_⟩
  intro A outer s H0 f c' hr2
  have e1 : Ext m H m H1 := by
    refine ⟨fun _ _ h => h, fun a o h ht _ => eN a o h ht, fun a xs h => eN a _ h (fun ps z => nomatch z), fun _ _ h => .inl h, fun a h => ?_⟩
    cases q1 : H a with
    | none => exact .inl q1
    | some o =>
      cases o with
      | tbl ps => exact .inr ⟨ps, q1⟩
      | _ => exact (h.no (eN a _ q1 fun ps z => nomatch z) fun ps z => nomatch z).elim
  have M1 : MtG (dW X q) m H1 G := ⟨M.dom, M.cod, M.inj, (fun n o a h1 h2 => by
    have ob := M.obj n o a h1 h2
    obtain ⟨u, hu1, hu2⟩ := ob.at0
    refine ob.tr (fun _ _ z => z) e1.tups ?_
    rw [hu1]
    exact eN a u hu1 (fun ps z => by subst z; cases hu2)), T1⟩
  refine hB A outer s H0 _ f c' hr2 ρ G σ H1 m _ (ME.ext e1) M1 ?_
  unfold sRefd at F
  cases qs : sa ρ G with
  | bad => rw [qs] at F; exact F
  | ok v G1 =>
    rw [qs] at F
    exact fun m2 v2 H2 e2 M2 _ => F m2 (.bl false) H2 (e1.trans e2) M2 (.bl false)
  | ex cc G1 =>
    rw [qs] at F
    cases hc : P.rf gi cc with
    | false => simp only [hc] at F; exact F.elim
    | true =>
      simp only [hc] at F
      exact fun m2 H2 d e2 M2 => ⟨true, hrf cc hc, fun _ => F m2 (.bl true) H2 (e1.trans e2) M2 (.bl true), (fun z => nomatch z)⟩
end
end Lt
end
section
set_option Elab.async false
set_option linter.all false
set_option maxRecDepth 100000
/-! Lt: soundness of statements. -/
namespace Lt
open PySem PySem.Spec PyProof.Rows L2
section
variable (D : Wd) (W : WX)
def FinS (m : Mp) (H : Hp) (r : RS) (E : Ends) : Prop := match r with
  | .nx ρ G => ∀ m' σ' H', Ext m H m' H' → MtG D m' H' G → MtE D.K m' H' ρ σ' → E.nx σ' H'
  | .rt v G => ∀ m' v' H', Ext m H m' H' → MtG D m' H' G → RV D.K m' H' v v' → E.rt v' H'
  | .bk ρ G => ∀ m' σ' H', Ext m H m' H' → MtG D m' H' G → MtE D.K m' H' ρ σ' → E.bk σ' H'
  | .ct ρ G => ∀ m' σ' H', Ext m H m' H' → MtG D m' H' G → MtE D.K m' H' ρ σ' → E.ct σ' H'
  | .ex c ρ G => ∀ m' σ' H' d, Ext m H m' H' → MtG D m' H' G → MtE D.K m' H' ρ σ' → W (D.xc c) d σ' H'
  | .bad => False
end
section
variable {D : Wd} {W : WX} {m m' : Mp} {H H' : Hp}
theorem FinS.ext {r : RS} {E : Ends} (h : FinS D W m H r E) (e : Ext m H m' H') : FinS D W m' H' r E := by
  cases r with
  | nx ρ G => exact fun m2 σ2 H2 e2 M N => h m2 σ2 H2 (e.trans e2) M N
  | rt v G => exact fun m2 σ2 H2 e2 M N => h m2 σ2 H2 (e.trans e2) M N
  | bk ρ G => exact fun m2 σ2 H2 e2 M N => h m2 σ2 H2 (e.trans e2) M N
  | ct ρ G => exact fun m2 σ2 H2 e2 M N => h m2 σ2 H2 (e.trans e2) M N
  | ex c ρ G => exact fun m2 σ2 H2 d e2 M N => h m2 σ2 H2 d (e.trans e2) M N
  | bad => exact h
theorem FinS.bind {α β : Type} {r : R α} {ρ : Ro} {f : α → Hq → RS} {E : Ends} {σ : L2.St} {rel : Mp → Hp → α → β → Prop} {Q : β → Hp → Prop} (h : FinS D W m H (r.st ρ f) E) (ME : MtE D.K m H ρ σ)
    (k : ∀ v G' m' v' H', r = .ok v G' → Ext m H m' H' → MtG D m' H' G' → rel m' H' v v' → FinS D W m' H' (f v G') E → Q v' H') : Fin D W σ m H r rel Q := by
  cases r with
  | ok v G => exact fun m2 v2 H2 e2 M r => k v G m2 v2 H2 rfl e2 M r (FinS.ext (show FinS D W m H (f v G) E from h) e2)
  | ex c G => exact fun m2 H2 d e2 M => h m2 σ H2 d e2 M (ME.ext e2)
  | bad => exact h
end
section
variable {X : Cx} {q : Wq} {W : WX} {P : Par}
/-- what statements need of a context -/
structure CxS (X : Cx) (W : WX) : Prop extends CxG X W where
  po : PassesOwn (model X.prog X.w) X.A X.env X.xe
def wS (X : Cx) (st : Stmt) : TS := fun D σ H => ∃ t, PS X st t ∧ t D σ H
def wSs (X : Cx) (st : List Stmt) : TS := fun D σ H => ∃ t, PSs X st t ∧ t D σ H
theorem ps_w {st : Stmt} : PS X st (wS X st) := ⟨fun pins s σ H D I ⟨t, h, q⟩ => h.run pins s σ H D I q⟩
theorem pss_w {st : List Stmt} : PSs X st (wSs X st) := ⟨fun pins s σ H D I ⟨t, h, q⟩ => h.run pins s σ H D I q⟩
def SS (X : Cx) (q : Wq) (W : WX) (s : Ss) (st : Stmt) : Prop := ∀ (ρ : Ro) (G : Hq) (σ : L2.St) (H : Hp) (m : Mp) (E : Ends), MtE X.K m H ρ σ → MtG (dW X q) m H G → FinS (dW X q) W m H (s ρ G) E → wS X st E σ H
def SSs (X : Cx) (q : Wq) (W : WX) (s : Ss) (st : List Stmt) : Prop := ∀ (ρ : Ro) (G : Hq) (σ : L2.St) (H : Hp) (m : Mp) (E : Ends), MtE X.K m H ρ σ → MtG (dW X q) m H G → FinS (dW X q) W m H (s ρ G) E → wSs X st E σ H
theorem ss_nil : SSs X q W (fun ρ G => .nx ρ G) [] := fun ρ G σ H m E ME M F => ⟨_, pss_nil, F m σ H (Ext.refl m H) M ME⟩
theorem ss_cons {s u : Ss} {st : Stmt} {r : List Stmt} (ha : SS X q W s st) (hr : SSs X q W u r) : SSs X q W (fun ρ G => (s ρ G).seq u) (st :: r) := by
  intro ρ G σ H m E ME M F
  refine ⟨_, pss_cons ps_w pss_w, ?_⟩
  refine ha ρ G σ H m _ ME M ?_
  cases qs : s ρ G with
  | nx ρ1 G1 =>
    simp only [qs, RS.seq_nx] at F
    exact fun m2 σ2 H2 e2 M2 N2 => hr ρ1 G1 σ2 H2 m2 E N2 M2 (FinS.ext F e2)
  | rt v G1 => simp only [qs, RS.seq_rt] at F; exact F
  | bk ρ1 G1 => simp only [qs, RS.seq_bk] at F; exact F
  | ct ρ1 G1 => simp only [qs, RS.seq_ct] at F; exact F
  | ex c ρ1 G1 => simp only [qs, RS.seq_ex] at F; exact F
  | bad => simp only [qs, RS.seq_bad] at F; exact F
/-! ### stores -/
theorem q_asg {t : Tg} {s : Sx E} {e : Expr} {p : Pos} (C : CxG X W) (hnm : ∀ n ∈ t.nms, NmOk X n) (hs : swapsWithSole [t.py] e p.line X.env = pure false) (hw : swappedStores [t.py] e X.env = pure none) (ha : SE X q W s e) : SS X q W (qAsg t s) (.Assign [t.py] e p) := by
  intro ρ G σ H m E ME M F
  refine ⟨_, ps_asg pe_w (pg_tg C.calm C.nd hnm) hs hw (by cases t <;> rfl), ?_⟩
  refine ha ρ G σ H m _ ME M (FinS.bind F ME fun v G1 m1 v' H1 _ e1 M1 r1 F1 => ?_)
  cases hset : t.set v ρ with
  | none => simp only [hset] at F1; exact F1.elim
  | some ρ1 =>
    simp only [hset] at F1
    exact tg_ok hset r1 (ME.ext e1) fun σ1 N1 _ => F1 m1 σ1 H1 (Ext.refl m1 H1) M1 N1
theorem q_set {n : Nm} {s : Sx E} {e : Expr} {p : Pos} (C : CxG X W) (hn : NmOk X n) (hs : swapsWith e (some n.py) p.line X.env = pure false) (ha : SE X q W s e) : SS X q W (qAsg (.name n) s) (.Assign [n.py] e p) := by
  intro ρ G σ H m E ME M F
  refine ⟨_, ps_set C.nd hn.1 hn.2.1 pe_w hs hn.2.2, ?_⟩
  refine ha ρ G σ H m _ ME M (FinS.bind F ME fun v G1 m1 v' H1 _ e1 M1 r1 F1 => ?_)
  exact F1 m1 _ H1 (Ext.refl m1 H1) M1 ((ME.ext e1).set r1)
theorem q_par {a b : Nm} {s u : Sx E} {e f : Expr} {k1 k2 : Nat} {p1 p2 p : Pos} (C : CxG X W) (ha1 : X.N[a.i]? = some a.x) (hb1 : X.N[b.i]? = some b.x) (hij : a.i ≠ b.i) (ha2 : X.env.scope.names.lookup a.x = some .local) (hb2 : X.env.scope.names.lookup b.x = some .local)
    (hw : swappedStores [.Tuple [a.py, b.py] k1 p1] (.Tuple [e, f] k2 p2) X.env = pure (some [a.x, b.x])) (h1 : starEach [e, f] X.env = (false, eval e X.env) :: starEach [f] X.env) (h2 : starEach [f] X.env = (false, eval f X.env) :: starEach [] X.env)
    (ha : SE X q W s e) (hb : SE X q W u f) : SS X q W (qPar a.i b.i s u) (.Assign [.Tuple [a.py, b.py] k1 p1] (.Tuple [e, f] k2 p2) p) := by
  intro ρ G σ H m E ME M F
  refine ⟨_, ps_par C.calm C.nd ha1 hb1 hij ha2 hb2 (pa_cons pe_w (pa_cons pe_w pa_nil h2) h1) hw (by rfl), ?_⟩
  refine ha ρ G σ H m _ ME M (FinS.bind F ME fun v G1 m1 v' H1 _ e1 M1 r1 F1 => ?_)
  refine hb ρ G1 σ H1 m1 _ (ME.ext e1) M1 (FinS.bind F1 (ME.ext e1) fun w G2 m2 w' H2 _ e2 M2 r2 F2 => ?_)
  exact ⟨v', w', rfl, F2 m2 _ H2 (Ext.refl m2 H2) M2 ((((ME.ext e1).ext e2).set (r1.ext e2)).set r2)⟩
theorem st_fin {σ : L2.St} {m : Mp} {H : Hp} {r : R LH} {E : Ends} {ρ : Ro} {i : Nat} (ME : MtE X.K m H ρ σ)
    (F : FinS (dW X q) W m H ((r.bind fun x G1 => match x with | .tmp xs => R.ok (Lt.E.ref G1.length) (G1 ++ [.lst xs]) | .pl _ => .bad).st ρ fun v G1 => .nx (ρ.set i (some v)) G1) E) : Fin (dW X q) W σ m H r (RLn X.K H) (fun v H1 => E.nx (σ.set i (some v)) H1) := by
  cases r with
  | bad => exact F
  | ex c G => exact fun m2 H2 d e2 M => F m2 σ H2 d e2 M (ME.ext e2)
  | ok x G1 =>
    intro m1 x' H1 e1 M1 r1
    cases x with
    | pl n => exact F.elim
    | tmp xs =>
      obtain ⟨⟨a, vs, rfl, h, rs, hn⟩, h0⟩ := r1
      obtain ⟨b, e, h0⟩ := h0 _ rfl
      cases e
      refine F (Mp.add m1 G1.length a) _ H1 ?_ (M1.add hn ⟨vs, h, rs.tr (Mp.add_mono M1) fun _ _ z => z⟩) ?_
      · refine ⟨fun n b h => Mp.add_mono M1 n b (e1.mono n b h), e1.stay, e1.tups, fun n b h => ?_, e1.there⟩
        unfold Mp.add at h
        split at h
        · cases h; exact .inr h0
        · exact e1.new n b h
      · refine MtE.set (i := i) (e := Lt.E.ref G1.length) (v := .ref a) ?_ (.ref Mp.add_self)
        exact ⟨ME.1, fun j y hy => let ⟨w, h1, h2⟩ := ME.2 j y hy; ⟨w, h1, (h2.ext e1).tr (Mp.add_mono M1) fun _ _ z => z⟩⟩
/-- y = [..], on one line -/
theorem q_setLc {n : Nm} {it : Sx (List E × Option Nat)} {c : Sx Bool} {e : Sx E} {t : Tg} {elt iter : Expr} {ifs : List Expr} {scope : Scope} {own : List (Str × Nat)} {p sp : Pos} (C : CxG X W) (hn : X.N[n.i]? = some n.x) (hnl : X.env.scope.names.lookup n.x = some .local)
    (hsw : swapsWith (.ListComp elt [⟨t.py, iter, ifs, 0⟩] scope p) (some n.py) sp.line X.env = pure true) (ok : BlkOk X.N X.env.scope scope own)
    (hi : SI X q W t.py it iter) (hnm : ∀ s H C cl fp, ∀ n ∈ t.nms, NmOk (blk X s H scope C cl fp) n) (hsl : ∀ n ∈ t.nms, n.i ∈ own.map (·.2))
    (hc : ∀ s H C cl fp, Snd (dW X q) W0 c RB (wTs (blk X s H scope C cl fp) ifs)) (he : ∀ s H C cl fp, SE (blk X s H scope C cl fp) q W0 e elt) (hs : ∀ x, foldedSetIterable iter X.env x = pure x) :
    SS X q W (qAsg (.name n) (sNew (sLc it t c e (own.map (·.2))))) (.Assign [n.py] (.ListComp elt [⟨t.py, iter, ifs, 0⟩] scope p) sp) := fun ρ G σ H m E ME M F =>
  ⟨_, ps_setLc C.calm C.nd hn hnl hsw pi_w ok (fun s H0 C0 cl fp => pg_tg (X := blk X s H0 scope C0 cl fp) C.calm C.nd (hnm s H0 C0 cl fp)) bT_ok bE_ok hs, lc_rd hi hsl hc he ME M (st_fin ME F)⟩
/-! ### x op= e -/
theorem iop_of {o : BOp} {x y z : E} {m : Mp} {H : Hp} {x' y' : V} {Q : VK} (rx : RV X.K m H x x') (ry : RV X.K m H y y') (h : augop o x y = some z) (k : ∀ z', RV X.K m H z z' → Q z' H) : ∃ r, OpR X (inplaceOp o.py) r ∧ r x' y' H Q := by
  cases o with
  | add =>
    cases rx with
    | int i => cases ry <;> first | (cases h; exact ⟨_, iop_add, _, _, rfl, rfl, k _ (.int _)⟩) | cases h
    | str a =>
      cases ry with
      | str b =>
        simp only [augop] at h
        split at h
        · rename_i hl; cases h; exact ⟨_, iop_add_str, a, b, rfl, rfl, hl, k _ (.str _)⟩
        · cases h
      | _ => cases h
    | _ => cases h
  | sub =>
    cases rx with
    | int i => cases ry <;> first | (cases h; exact ⟨_, iop_sub, _, _, rfl, rfl, k _ (.int _)⟩) | cases h
    | _ => cases h
  | mul =>
    cases rx with
    | int i =>
      cases ry with
      | int j =>
        simp only [augop] at h
        split at h
        · rename_i hl; cases h; exact ⟨_, iop_mul, i, j, rfl, rfl, cmul_of hl, k _ (.int _)⟩
        · cases h
      | _ => cases h
    | _ => cases h
  | fdiv =>
    cases rx with
    | int i =>
      cases ry with
      | int j =>
        simp only [augop] at h
        split at h
        · rename_i hl; cases h; exact ⟨_, iop_fdiv, i, j, rfl, rfl, hl, k _ (.int _)⟩
        · cases h
      | _ => cases h
    | _ => cases h
  | mod =>
    cases rx with
    | int i =>
      cases ry with
      | int j =>
        simp only [augop] at h
        split at h
        · rename_i hl; cases h; exact ⟨_, iop_mod, i, j, rfl, rfl, hl, k _ (.int _)⟩
        · cases h
      | _ => cases h
    | _ => cases h
def wIp (X : Cx) (op : Operator) : TIp := fun x y H Q => ∃ r, OpR X (inplaceOp op) r ∧ r x y H Q
theorem pip_w {op : Operator} : PIp X op (wIp X op) := fun pins s σ H x y v u Q I rx ry ⟨r, h, q⟩ => h pins s σ H x y v u Q I rx ry q
theorem q_aug {o : BOp} {n : Nm} {s : Sx E} {e : Expr} {p : Pos} (C : CxG X W) (hn : NmOk X n) (ha : SE X q W s e) : SS X q W (qAug o n.i s) (.AugAssign n.py o.py e p) := by
  intro ρ G σ H m E ME M F
  refine ⟨_, ps_aug C.nd hn.1 hn.2.1 pe_w pip_w hn.2.2, ?_⟩
  unfold qAug at F
  cases qs : ρ[n.i]? with
  | none => rw [qs] at F; exact F.elim
  | some o1 =>
    cases o1 with
    | none => rw [qs] at F; exact F.elim
    | some x =>
      rw [qs] at F
      obtain ⟨v, h1, h2⟩ := ME.2 n.i x qs
      refine ⟨v, h1, ?_⟩
      refine ha ρ G σ H m _ ME M (FinS.bind F ME fun y G1 m1 y' H1 _ e1 M1 r1 F1 => ?_)
      cases hz : augop o x y with
      | none => simp only [hz] at F1; exact F1.elim
      | some z =>
        simp only [hz] at F1
        exact iop_of (h2.ext e1) r1 hz fun z' r => F1 m1 _ H1 (Ext.refl m1 H1) M1 ((ME.ext e1).set r)
/-! ### d[k] = e, l.append(e), an expression -/
theorem q_expr {s : Sx E} {e : Expr} {p : Pos} (hs : swapsWith e none p.line X.env = pure false) (ha : SE X q W s e) : SS X q W (qExpr s) (.Expr e p) := by
  intro ρ G σ H m E ME M F
  refine ⟨_, ps_expr pe_w hs, ?_⟩
  exact ha ρ G σ H m _ ME M (FinS.bind F ME fun v G1 m1 v' H1 _ e1 M1 r1 F1 => F1 m1 σ H1 (Ext.refl m1 H1) M1 (ME.ext e1))
theorem valAny {kvs : List (Str × E)} {vs : List (Key × V)} {K : PySem.W.Frag} {m : Mp} {H : Hp} {k : Str} (r : RKs K m H kvs vs) : (vs.any fun kv => decide (kv.1 = Sum.inr k)) = kvs.any fun kv => decide (kv.1 = k) := by
  induction kvs generalizing vs with
  | nil => cases r; rfl
  | cons a t ih =>
    cases r with
    | @cons x _ _ v vs r rs =>
      rw [List.any_cons, List.any_cons, ih rs]
      congr 1
      by_cases e : x = k
      · subst e; simp
      · rw [decide_eq_false e]
        exact decide_eq_false fun z => e (Sum.inr.inj z)
theorem RKs.put1 {K : PySem.W.Frag} {m : Mp} {H : Hp} {k : Str} {e : E} {v : V} (rv : RV K m H e v) : ∀ {kvs : List (Str × E)} {vs : List (Key × V)}, RKs K m H kvs vs → RKs K m H (kvs.map fun kv => if kv.1 = k then (kv.1, e) else kv) (vs.map fun kv => if kv.1 = Sum.inr k then (kv.1, v) else kv)
  | [], _, .nil => .nil
  | (x, e0) :: t, (_, v0) :: vs, .cons r rs => by
    rw [List.map_cons, List.map_cons]
    by_cases hx : x = k
    · subst hx
      rw [if_pos rfl, if_pos rfl]
      exact .cons rv (RKs.put1 rv rs)
    · rw [if_neg hx, if_neg fun z => hx (Sum.inr.inj z)]
      exact .cons r (RKs.put1 rv rs)
theorem RKs.put2 {K : PySem.W.Frag} {m : Mp} {H : Hp} {k : Str} {e : E} {v : V} (rv : RV K m H e v) : ∀ {kvs : List (Str × E)} {vs : List (Key × V)}, RKs K m H kvs vs → RKs K m H (kvs ++ [(k, e)]) (vs ++ [(.inr k, v)])
  | [], _, .nil => .cons rv .nil
  | (x, e0) :: t, (_, v0) :: vs, .cons r rs => .cons r (RKs.put2 rv rs)
theorem RKs.put {kvs : List (Str × E)} {vs : List (Key × V)} {K : PySem.W.Frag} {m : Mp} {H : Hp} {k : Str} {e : E} {v : V} (r : RKs K m H kvs vs) (rv : RV K m H e v) : RKs K m H (putS kvs k e) (putK vs (Sum.inr k) v) := by
  unfold putS putK
  rw [valAny r]
  split
  · exact RKs.put1 rv r
  · exact RKs.put2 rv r
theorem RKs.length {kvs : List (Str × E)} {vs : List (Key × V)} {K : PySem.W.Frag} {m : Mp} {H : Hp} (r : RKs K m H kvs vs) : kvs.length = vs.length := by
  induction kvs generalizing vs with
  | nil => cases r; rfl
  | cons a t ih =>
    cases r with
    | cons r rs => rw [List.length_cons, List.length_cons, ih rs]
theorem q_setD {so sk se : Sx E} {o k e : Expr} {p1 p : Pos} (hu : X.A.units + 100 < cLine) (hs : swapsWith e (some (.Subscript o k p1)) p.line X.env = pure false) (ho : SE X q W so o) (hk : SE X q W sk k) (he : SE X q W se e) : SS X q W (qSetD so sk se) (.Assign [.Subscript o k p1] e p) := by
  intro ρ G σ H m E ME M F
  refine ⟨_, ps_dput (by omega) pe_w pe_w pe_w hs, ?_⟩
  refine he ρ G σ H m _ ME M (FinS.bind F ME fun v G1 m1 v' H1 _ e1 M1 r1 F1 => ?_)
  refine ho ρ G1 σ H1 m1 _ (ME.ext e1) M1 (FinS.bind F1 (ME.ext e1) fun x G2 m2 x' H2 _ e2 M2 r2 F2 => ?_)
  refine hk ρ G2 σ H2 m2 _ ((ME.ext e1).ext e2) M2 (FinS.bind F2 ((ME.ext e1).ext e2) fun y G3 m3 y' H3 _ e3 M3 r3 F3 => ?_)
  have N3 := ((ME.ext e1).ext e2).ext e3
  have r1' := (r1.ext e2).ext e3
  cases r2 with
  | @ref n a hn =>
    have hn3 := e3.mono n a hn
    cases r3 with
    | str z =>
      cases hg : G3[n]? with
      | none => simp only [hg] at F3; exact F3.elim
      | some ob =>
        have obr := M3.obj n ob a hg hn3
        cases ob with
        | dct kvs =>
          simp only [hg] at F3
          split at F3
          · rename_i hl
            obtain ⟨vs, h1, r⟩ := obr
            have ee : Ext m3 H3 m3 (upd H3 a (.dK (putK vs (Sum.inr z) v'))) := Ext.put M3 hg hn3 fun ps z => nomatch z
            refine ⟨a, _, rfl, DPut.k (k := .inr z) h1 (by rw [← r.length]; exact hl), F3 m3 σ _ ee (M3.put hg hn3 ⟨_, upd_same, (r.put r1').ext ee⟩) (N3.ext ee)⟩
          · exact F3.elim
        | _ => simp only [hg] at F3; exact F3.elim
    | _ => exact F3.elim
  | _ => exact F3.elim
theorem q_app {so se : Sx E} {o e : Expr} {p1 p2 p : Pos} (hbase : attributeBase o "append" X.env (eval o X.env) = eval o X.env)
    (hfew : ((backTo p2 (starEach [e] X.env)).all (fun x => !x.1) && (backToKw p2 (keywordEach [] X.env)).all (fun x => x.1.isSome)
      && decide ([e].length + ([] : List Keyword).length + (if ([] : List Keyword).isEmpty then 0 else 1) < 30)) = true)
    (hl : (p1.endLine == p2.line) = true) (hs : starEach [e] X.env = [(false, eval e X.env)]) (ho : SE X q W so o) (he : SE X q W se e) : SS X q W (qApp so se) (.Expr (.Call (.Attribute o "append" p1) [e] [] p2) p) := by
  intro ρ G σ H m E ME M F
  refine ⟨_, ps_expr (pe_bm PySem.F.plainAttrs_list PySem.F.slot_list_append PySem.F.type_list_append mt_append pe_w (pa_cons pe_w pa_nil hs) hbase hfew hl hs (by rfl)) (by rfl), ?_⟩
  refine ho ρ G σ H m _ ME M (FinS.bind F ME fun x G1 m1 x' H1 _ e1 M1 r1 F1 => ?_)
  cases r1 with
  | @ref n a hn =>
    simp only at F1
    split at F1
    · rename_i hsome
      obtain ⟨ys, hys⟩ := Option.isSome_iff_exists.mp hsome
      obtain ⟨b, vs0, eb, sq0, _⟩ := RL.get (X := X) (q := q) (l := .pl n) ⟨a, rfl, hn⟩ M1 hys
      cases eb
      refine ⟨.inl ⟨rfl, _, sq0⟩, ?_⟩
      refine he ρ G1 σ H1 m1 _ (ME.ext e1) M1 (FinS.bind F1 (ME.ext e1) fun v G2 m2 v' H2 _ e2 M2 r2 F2 => ?_)
      have hn2 := e2.mono n a hn
      cases hg : G2[n]? with
      | none => simp only [hg] at F2; exact F2.elim
      | some ob =>
        have obr := M2.obj n ob a hg hn2
        cases ob with
        | lst xs =>
          simp only [hg] at F2
          split at F2
          · rename_i hlen
            obtain ⟨vs, h1, r⟩ := obr
            have ee : Ext m2 H2 m2 (upd H2 a (.lst (vs ++ [v']))) := Ext.put M2 hg hn2 fun ps z => nomatch z
            exact ⟨a, vs, v', rfl, rfl, h1, by rw [← r.length]; exact hlen, F2 m2 σ _ ee (M2.put hg hn2 ⟨_, upd_same, (r.append (.cons r2 .nil)).ext ee⟩) (((ME.ext e1).ext e2).ext ee)⟩
          · exact F2.elim
        | _ => simp only [hg] at F2; exact F2.elim
    · exact F1.elim
  | _ => exact F1.elim
end
end Lt
end
section
set_option Elab.async false
set_option linter.all false
set_option maxRecDepth 100000
/-! Lt: soundness of statements: branches, loops, ends. -/
namespace Lt
open PySem PySem.Spec PyProof.Rows L2
section
variable {X : Cx} {q : Wq} {W : WX} {P : Par}
theorem q_if {s : Sx Bool} {u v : Ss} {c : Expr} {a b : List Stmt} {p : Pos} (hc : ST X q W s c) (ha : SSs X q W u a) (hb : SSs X q W v b) : SS X q W (qIf s u v) (.If c a b p) := by
  intro ρ G σ H m E ME M F
  refine ⟨_, ps_if pt_w pss_w pss_w, ?_⟩
  refine hc ρ G σ H m _ ME M (FinS.bind F ME fun x G1 m1 x' H1 _ e1 M1 r1 F1 => ?_)
  cases r1
  cases x with
  | true => exact ha ρ G1 σ H1 m1 E (ME.ext e1) M1 F1
  | false => exact hb ρ G1 σ H1 m1 E (ME.ext e1) M1 F1
theorem q_ret {s : Sx E} {e : Expr} {p : Pos} (ha : SE X q W s e) : SS X q W (qRet s) (.Return (some e) p) := by
  intro ρ G σ H m E ME M F
  refine ⟨_, ps_ret pe_w, ?_⟩
  exact ha ρ G σ H m _ ME M (FinS.bind F ME fun v G1 m1 v' H1 _ e1 M1 r1 F1 => F1 m1 v' H1 (Ext.refl m1 H1) M1 r1)
theorem q_retN {p : Pos} : SS X q W (fun _ G => .rt .non G) (.Return none p) := fun ρ G σ H m E ME M F => ⟨_, ps_retN, F m .non H (Ext.refl m H) M .non⟩
theorem q_pas {p : Pos} : SS X q W (fun ρ G => .nx ρ G) (.Pass p) := fun ρ G σ H m E ME M F => ⟨_, ps_pass, F m σ H (Ext.refl m H) M ME⟩
theorem q_brk {p : Pos} : SS X q W (fun ρ G => .bk ρ G) (.Break p) := fun ρ G σ H m E ME M F => ⟨_, ps_break, F m σ H (Ext.refl m H) M ME⟩
theorem q_cont {p : Pos} : SS X q W (fun ρ G => .ct ρ G) (.Continue p) := fun ρ G σ H m E ME M F => ⟨_, ps_continue, F m σ H (Ext.refl m H) M ME⟩
theorem q_rais {c : Nat} {e : Expr} {p : Pos} (C : CxG X W) (hm : PMk X e (fun _ H Q => Q (q.xc c) none H)) : SS X q W (fun ρ G => .ex c ρ G) (.Raise (some e) none p) := fun ρ G σ H m E ME M F =>
  ⟨_, ps_raise C.calm C.tk hm, F m σ H none (Ext.refl m H) M ME⟩
/-! ### while -/
theorem q_whil {s : Sx Bool} {b : Ss} {c : Expr} {bs : List Stmt} {p : Pos} (C : CxS X W) (n : Nat) (hc : ST X q W s c) (hb : SSs X q W b bs) : SS X q W (whilS s b n) (.While c bs [] p) := by
  intro ρ G σ H m E ME M F
  refine ⟨_, ps_while C.po pt_w pss_w, ?_⟩
  refine ⟨fun k σ' H' => ∃ ρ' G' m', MtE X.K m' H' ρ' σ' ∧ MtG (dW X q) m' H' G' ∧ FinS (dW X q) W m' H' (whilS s b k ρ' G') E, ⟨n, ρ, G, m, ME, M, F⟩, ?_⟩
  rintro k σ1 H1 ⟨ρ1, G1, m1, N1, M1, F1⟩
  cases k with
  | zero => exact F1.elim
  | succ k =>
    unfold whilS at F1
    refine hc ρ1 G1 σ1 H1 m1 _ N1 M1 (FinS.bind F1 N1 fun x G2 m2 x' H2 _ e2 M2 r2 F2 => ?_)
    cases r2
    cases x with
    | false => exact F2 m2 σ1 H2 (Ext.refl m2 H2) M2 (N1.ext e2)
    | true =>
      rw [if_pos rfl] at F2 ⊢
      refine ⟨fun σ' H' => ∃ ρ' G' m', MtE X.K m' H' ρ' σ' ∧ MtG (dW X q) m' H' G' ∧ FinS (dW X q) W m' H' (whilS s b k ρ' G') E, fun σ' H' h => ⟨k, Nat.lt_succ_self k, h⟩, ?_⟩
      refine hb ρ1 G2 σ1 H2 m2 _ (N1.ext e2) M2 ?_
      cases hr : b ρ1 G2 with
      | nx ρ3 G3 => rw [hr] at F2; exact fun m3 σ3 H3 e3 M3 N3 => ⟨ρ3, G3, m3, N3, M3, FinS.ext F2 e3⟩
      | ct ρ3 G3 => rw [hr] at F2; exact fun m3 σ3 H3 e3 M3 N3 => ⟨ρ3, G3, m3, N3, M3, FinS.ext F2 e3⟩
      | bk ρ3 G3 => rw [hr] at F2; exact F2
      | rt v G3 => rw [hr] at F2; exact F2
      | ex c ρ3 G3 => rw [hr] at F2; exact F2
      | bad => rw [hr] at F2; exact F2
/-! ### for -/
/-- the state at a turn -/
def ForAt (D : Wd) (W : WX) (m1 : Mp) (H1 : Hp) (st : Option Nat) (all : List E) (t : Tg) (b : Ss) (E : Ends) (i : Nat) (σ : L2.St) (H : Hp) : Prop :=
  ∃ m' ρ' G', Ext m1 H1 m' H ∧ MtG D m' H G' ∧ MtE D.K m' H ρ' σ ∧ FinS D W m' H (forS st all t b (all.drop i) ρ' G') E
theorem forS_stays {D : Wd} {m : Mp} {H : Hp} {st : Option Nat} {all r : List E} {t : Tg} {b : Ss} {ρ : Ro} {G : Hq} {E : Ends} (h : FinS D W m H (forS st all t b r ρ G) E) : staysB st all G = true := by
  cases hs : staysB st all G with
  | true => rfl
  | false =>
    cases r with
    | nil => unfold forS at h; rw [hs] at h; exact h.elim
    | cons x r => unfold forS at h; rw [hs] at h; exact h.elim
theorem q_for {it : Sx (List E × Option Nat)} {b : Ss} {t : Tg} {iter : Expr} {bs : List Stmt} {p : Pos} (C : CxS X W) (hi : SI X q W t.py it iter) (hnm : ∀ n ∈ t.nms, NmOk X n) (hb : SSs X q W b bs)
    (hs : ∀ x, foldedSetIterable iter X.env x = pure x) : SS X q W (qFor t it b) (.For t.py iter bs [] p) := by
  intro ρ G σ H m E ME M F
  refine ⟨_, ps_for C.po C.calm pi_w (pg_tg C.calm C.nd hnm) pss_w hs, ?_⟩
  refine hi ρ G σ H m _ ME M (FinS.bind F ME fun xs G1 m1 J H1 _ e1 M1 r1 F1 => ?_)
  obtain ⟨Gd, Y, w, hG, hY⟩ := r1
  refine for_it (g := gTg X.K t) (tb := wSs X bs) (D := E) (σ := σ) (H := H1) w (Pv := ForAt (dW X q) W m1 H1 xs.2 xs.1 t b E) ?_ ?_ ?_ ?_
  · exact ⟨m1, ρ, G1, Ext.refl m1 H1, M1, ME.ext e1, by rw [List.drop_zero]; exact F1⟩
  · rintro i σ' H' _ ⟨m', ρ', G', h1, h2, h3, h4⟩
    exact hG m' H' G' h1 h2 (staysB_of (forS_stays h4))
  · rintro i x σ2 H2 H3 hi2 ⟨m', ρ', G', x1, x2, x3, x4⟩ hy
    have hst := forS_stays x4
    obtain ⟨rfl, y, hy1, hy2⟩ := hY m' H2 G' i x H3 hi2 x1 x2 (staysB_of hst) hy
    have hd : xs.1.drop i = y :: xs.1.drop (i + 1) := by
      obtain ⟨hl, he⟩ := List.getElem?_eq_some_iff.mp hy1
      rw [List.drop_eq_getElem_cons hl, he]
    rw [hd] at x4
    unfold forS at x4
    rw [hst, if_pos rfl] at x4
    cases hset : t.set y ρ' with
    | none => simp only [hset] at x4; exact x4.elim
    | some ρ1 =>
      simp only [hset] at x4
      refine tg_ok hset hy2 x3 fun σ1 N1 _ => ?_
      refine hb ρ1 G' σ1 H3 m' _ N1 x2 ?_
      cases hr : b ρ1 G' with
      | nx ρ3 G3 => rw [hr] at x4; exact fun m3 σ3 H4 e3 M3 N3 => ⟨m3, ρ3, G3, x1.trans e3, M3, N3, FinS.ext x4 e3⟩
      | ct ρ3 G3 => rw [hr] at x4; exact fun m3 σ3 H4 e3 M3 N3 => ⟨m3, ρ3, G3, x1.trans e3, M3, N3, FinS.ext x4 e3⟩
      | bk ρ3 G3 => rw [hr] at x4; exact x4
      | rt v G3 => rw [hr] at x4; exact x4
      | ex c ρ3 G3 => rw [hr] at x4; exact x4
      | bad => rw [hr] at x4; exact x4
  · rintro σ' H' ⟨m', ρ', G', x1, x2, x3, x4⟩
    rw [List.drop_length] at x4
    have hst := forS_stays x4
    unfold forS at x4
    rw [hst, if_pos rfl] at x4
    exact x4 m' σ' H' (Ext.refl m' H') x2 x3
end
end Lt
end
section
set_option Elab.async false
set_option linter.all false
set_option maxRecDepth 100000
/-! Lt: soundness of instances, their attributes and methods, of dicts. -/
namespace Lt
open PySem PySem.Spec PyProof.Rows L2
section
variable {X : Cx} {q : Wq} {W : WX} {P : Par}
/-- classes and attributes -/
def AvOk (K : PySem.W.Frag) (P : Par) : Prop := ∀ c f, P.av c f = true → Cls K (He.ga K c) ∧ NoAttr K (He.ga K c) f
theorem RFs.val {K : PySem.W.Frag} {m : Mp} {H : Hp} {x : Str} : ∀ {fs : List (Str × E)} {vs : List (Str × V)} {e : E}, RFs K m H fs vs → fs.lookup x = some e → ∃ v, vs.lookup x = some v ∧ RV K m H e v
  | [], _, _, .nil, h => by cases h
  | (y, a) :: fs, (_, v) :: vs, e, .cons r rs, h => by
    rw [List.lookup_cons] at h ⊢
    cases q : x == y with
    | true => rw [q] at h; cases h; exact ⟨v, rfl, r⟩
    | false => rw [q] at h; exact RFs.val rs h
theorem RFs.valN {K : PySem.W.Frag} {m : Mp} {H : Hp} {x : Str} : ∀ {fs : List (Str × E)} {vs : List (Str × V)}, RFs K m H fs vs → fs.lookup x = none → vs.lookup x = none
  | [], _, .nil, h => rfl
  | (y, a) :: fs, (_, v) :: vs, .cons r rs, h => by
    rw [List.lookup_cons] at h ⊢
    cases q : x == y with
    | true => rw [q] at h; cases h
    | false => rw [q] at h; exact RFs.valN rs h
theorem RFs.put {K : PySem.W.Frag} {m : Mp} {H : Hp} {f : Str} {e : E} {v : V} (rv : RV K m H e v) : ∀ {fs : List (Str × E)} {vs : List (Str × V)}, RFs K m H fs vs → RFs K m H (putA f e fs) (putF f v vs)
  | [], _, .nil => .cons rv .nil
  | (y, a) :: fs, (_, w) :: vs, .cons r rs => by
    by_cases h : y = f
    · rw [putA, putF, if_pos h, if_pos h]; exact .cons rv rs
    · rw [putA, putF, if_neg h, if_neg h]; exact .cons r (RFs.put rv rs)
theorem RFs.len {K : PySem.W.Frag} {m : Mp} {H : Hp} : ∀ {fs : List (Str × E)} {vs : List (Str × V)}, RFs K m H fs vs → fs.length = vs.length
  | _, _, .nil => rfl
  | _, _, .cons _ r => by rw [List.length_cons, List.length_cons, RFs.len r]
/-- an attribute, read -/
theorem attr_at {G : Hq} {m : Mp} {H : Hp} {x v : E} {x' : V} {f : Str} (A : AvOk X.K P) (M : MtG (dW X q) m H G) (r : RV X.K m H x x') (h : attrE P G f x = some v) :
    ∃ a c dx vs v', x' = .ref a ∧ H a = some (.ins (He.ga X.K c) dx vs) ∧ Cls X.K (He.ga X.K c) ∧ NoAttr X.K (He.ga X.K c) f ∧ vs.lookup f = some v' ∧ RV X.K m H v v' ∧ clsE G x = some c := by
  cases r with
  | @ref n a hn =>
    simp only [attrE] at h
    cases e : G[n]? with
    | none => rw [e] at h; cases h
    | some o =>
      rw [e] at h
      have ob := M.obj n o a e hn
      cases o with
      | ins c fs =>
        simp only at h
        split at h
        · rename_i hav
          obtain ⟨dx, vs, h1, rs⟩ := ob
          obtain ⟨w, h2, h3⟩ := rs.val h
          exact ⟨a, c, dx, vs, w, rfl, h1, (A c f hav).1, (A c f hav).2, h2, h3, by simp only [clsE, e]⟩
        · cases h
      | _ => cases h
  | _ => cases h
theorem s_attr {s : Sx E} {e : Expr} {f : Str} {p : Pos} (A : AvOk X.K P) (hb : attributeBase e f X.env (eval e X.env) = eval e X.env) (ha : SE X q W s e) : SE X q W (sAttr P s f) (.Attribute e f p) := by
  intro ρ G σ H m Q ME M F
  refine ⟨_, pe_fld pe_w hb, ?_⟩
  refine ha ρ G σ H m _ ME M (F.bind fun x G1 m1 x' H1 _ e1 M1 r1 F1 => ?_)
  obtain ⟨v, hv, F1⟩ := optR_fin F1
  obtain ⟨a, c, dx, vs, v', rfl, h1, h2, h3, h4, h5, _⟩ := attr_at A M1 r1 hv
  exact ⟨a, _, dx, vs, v', rfl, h1, h2, h3, h4, F1.here M1 h5⟩
/-- an attribute, written -/
theorem att_put {G G' : Hq} {m : Mp} {H : Hp} {x v : E} {x' v' : V} {f : Str} (A : AvOk X.K P) (M : MtG (dW X q) m H G) (r : RV X.K m H x x') (rv : RV X.K m H v v') (h : setAtt P x f v G = some G') :
    ∃ a C dx vs, x' = .ref a ∧ H a = some (.ins C dx vs) ∧ Cls X.K C ∧ NoAttr X.K C f ∧ vs.length < 1000 ∧ Ext m H m (upd H a (.ins C dx (putF f v' vs))) ∧ MtG (dW X q) m (upd H a (.ins C dx (putF f v' vs))) G' ∧ ∃ c, clsE G x = some c ∧ C = He.ga X.K c := by
  cases r with
  | @ref n a hn =>
    simp only [setAtt] at h
    cases e : G[n]? with
    | none => rw [e] at h; cases h
    | some o =>
      rw [e] at h
      have ob := M.obj n o a e hn
      cases o with
      | ins c fs =>
        simp only at h
        split at h
        · rename_i hc
          cases h
          rw [Bool.and_eq_true, decide_eq_true_eq] at hc
          obtain ⟨dx, vs, h1, rs⟩ := ob
          have ee : Ext m H m (upd H a (.ins (He.ga X.K c) dx (putF f v' vs))) := Ext.put M e hn fun ps z => nomatch z
          exact ⟨a, _, dx, vs, rfl, h1, (A c f hc.1).1, (A c f hc.1).2, by rw [← rs.len]; exact hc.2, ee, M.put e hn ⟨dx, _, upd_same, (RFs.put rv rs).ext ee⟩, c, by simp only [clsE, e], rfl⟩
        · cases h
      | _ => cases h
  | _ => cases h
/-! ### methods -/
/-- o.m(..) where what is raised is wished for at the slots -/
def tMethA (C : Addr) (m : Str) (sp : Sp) (E : L2.St → XK) (ta : TE) (t : TA) : TE := fun σ H Q => ta σ H fun x H1 => ∃ a dx fs, x = .ref a ∧ H1 a = some (.ins C dx fs) ∧ fs.lookup m = none ∧ t σ H1 fun vs H2 => sp (x :: vs) H2 Q (E σ)
theorem meth_tree {env : Env} {o : Expr} {m : Str} {apos pos : Pos} {args : List Expr} (hb : attributeBase o m env (eval o env) = eval o env)
    (hf : methodCallForm (args.length + ([] : List Keyword).length) (backTo pos (starEach args env)) (backToKw pos (keywordEach [] env)) = true) (hl : (apos.endLine == pos.line) = true) :
    eval (.Call (.Attribute o m apos) args [] pos) env = (do
      let ov ← eval o env
      standAt apos.atName
      let (f, first) ← holding [ov] (getMethod ov m (do return (← importBound o env).getD true))
      callWith pos f first (backTo pos (starEach args env)) (backToKw pos (keywordEach [] env))) := by
  rw [arm_eval_Call, hb]
  unfold methodCall
  rw [hf]
  have hp : methodCallPos true o env apos pos = pure pos := by
    unfold methodCallPos
    rw [hl]
    rfl
  rw [hp]
  rfl
section
variable {k : Nat} {f C : Addr} {fd : FuncData} {ps : List Str} {sp : Sp} {E : L2.St → XK} {m : Str} {pos apos : Pos} {o : Expr} {args : List Expr} {ta : TE} {t : TA}
theorem run_meth {pins : List (Addr × Obj)} {s2 : Shared} {us : List Value} {vs : List V} {σ : L2.St} {H2 : Hp} {Q : VK} {a : Addr} (Fo : FnOk X.prog X.w X.K X.mg X.base (L2.CX X.prog X.w) k f fd ps sp) (hr : Room k X.A) (hbi : L2.Binds X.K fd ps []) (hx : ∀ σ, PassesAt (L2.CX X.prog X.w) X σ (E σ))
    (I2 : Inv X pins σ H2 s2) (r : Vals vs us) (q2 : sp (.ref a :: vs) H2 Q (E σ)) : wpAny (model X.prog X.w) X.A (call (.ref f) ([Value.ref a] ++ us)) (EP X pins σ Q) X.xe s2 :=
  run_fnS (us := .ref a :: us) (vs := .ref a :: vs) Fo hr hbi (hx σ) I2 (.cons rfl r) q2
theorem pe_methA {e : Expr} {es : List Expr} (he : PE X o ta) (c : Cls X.K C) (hm : Meth X.K C m f) (Fo : FnOk X.prog X.w X.K X.mg X.base (L2.CX X.prog X.w) k f fd ps sp) (hr : Room k X.A) (hbi : L2.Binds X.K fd ps []) (hx : ∀ σ, PassesAt (L2.CX X.prog X.w) X σ (E σ)) (ha : PA X (e :: es) t)
    (hst : starEach (e :: es) X.env = (false, eval e X.env) :: starEach es X.env) (hpl : (backTo pos (starEach es X.env)).any (·.1) = false)
    (hb : attributeBase o m X.env (eval o X.env) = eval o X.env)
    (hf : methodCallForm ((e :: es).length + ([] : List Keyword).length) (backTo pos (starEach (e :: es) X.env)) (backToKw pos (keywordEach [] X.env)) = true) (hl : (apos.endLine == pos.line) = true) :
    PE X (.Call (.Attribute o m apos) (e :: es) [] pos) (tMethA C m sp E ta t) := by
  refine ⟨fun pins s σ H Q I h => ?_⟩
  refine PySem.W.methodCall_KW (thn (he.run pins s σ H _ I h) fun u s1 hu => ?_) (meth_tree hb hf hl)
  obtain ⟨x, H1, I1, rx, a, dx, fs, rfl, ea, l, q1⟩ := hu
  cases rx
  refine getmeth_ok I1 ea c hm l ?_
  refine PySem.W.callWith_K (first := [.ref a]) (h₀ := X.base) I1.ok.mod.kin hm.kp (thn (ha.run pos pins s1 σ H1 _ I1 q1) fun us s2 hu => ?_) hst hpl
  obtain ⟨vs, H2, I2, r, q2⟩ := hu
  exact ⟨I2.kIn, run_meth Fo hr hbi hx I2 r q2⟩
theorem pe_methA0 (he : PE X o ta) (c : Cls X.K C) (hm : Meth X.K C m f) (Fo : FnOk X.prog X.w X.K X.mg X.base (L2.CX X.prog X.w) k f fd ps sp) (hr : Room k X.A) (hbi : L2.Binds X.K fd ps []) (hx : ∀ σ, PassesAt (L2.CX X.prog X.w) X σ (E σ))
    (hb : attributeBase o m X.env (eval o X.env) = eval o X.env) (hl : (apos.endLine == pos.line) = true) :
    PE X (.Call (.Attribute o m apos) [] [] pos) (tMethA C m sp E ta tNil) := by
  refine ⟨fun pins s σ H Q I h => ?_⟩
  refine PySem.W.methodCall_KW (thn (he.run pins s σ H _ I h) fun u s1 hu => ?_) (meth_tree hb rfl hl)
  obtain ⟨x, H1, I1, rx, a, dx, fs, rfl, ea, l, q1⟩ := hu
  cases rx
  refine getmeth_ok I1 ea c hm l ?_
  exact PySem.W.callWith_K0 (first := [.ref a]) I1.kIn hm.kp (run_meth (us := []) (vs := []) Fo hr hbi hx I1 .nil q1)
end
/-- classes and methods, as the context knows them -/
def MvOk (X : Cx) (q : Wq) (P : Par) (k : Nat) : Prop := ∀ c m f np, P.mv c m = some (f, np) → ∃ fd ps, Cls X.K (He.ga X.K c) ∧ Meth X.K (He.ga X.K c) m (He.ma X.K (He.ga X.K c) m) ∧ L2.Binds X.K fd ps [] ∧ ps.length = np ∧ FnOk X.prog X.w X.K X.mg X.base (L2.CX X.prog X.w) k (He.ma X.K (He.ga X.K c) m) fd ps (spF X.K q P f np)
theorem meth_of {G : Hq} {x : E} {n : Str} {f : Nat × Nat} (h : methE P G n x = some f) : ∃ i c fs, x = .ref i ∧ G[i]? = some (.ins c fs) ∧ fs.lookup n = none ∧ P.mv c n = some f := by
  cases x with
  | ref i =>
    simp only [methE] at h
    cases e : G[i]? with
    | none => rw [e] at h; cases h
    | some o =>
      rw [e] at h
      cases o with
      | ins c fs =>
        simp only at h
        split at h
        · rename_i hl
          exact ⟨i, c, fs, rfl, e, by simpa using hl, h⟩
        · cases h
      | _ => cases h
  | _ => cases h
theorem ins_at {G : Hq} {m : Mp} {H : Hp} {i : Nat} {x' : V} {c : Str} {fs : List (Str × E)} (M : MtG (dW X q) m H G) (r : RV X.K m H (.ref i) x') (h : G[i]? = some (.ins c fs)) :
    ∃ a dx vs, x' = .ref a ∧ H a = some (.ins (He.ga X.K c) dx vs) ∧ RFs X.K m H fs vs := by
  cases r with
  | ref hn =>
    obtain ⟨dx, vs, h1, rs⟩ := M.obj i _ _ h hn
    exact ⟨_, dx, vs, rfl, h1, rs⟩
theorem nox_cases {α : Type} {r : R α} {β γ : Type} {f : α → Hq → R β} {D : Wd} {σ : L2.St} {m : Mp} {H : Hp} {rel : Mp → Hp → β → γ → Prop} {Q : γ → Hp → Prop} (F : Fin D W σ m H (r.nox.bind f) rel Q) : ∃ v G, r = .ok v G ∧ Fin D W σ m H (f v G) rel Q := by
  cases r with
  | ok v G => exact ⟨v, G, rfl, F⟩
  | ex c G => exact F.elim
  | bad => exact F.elim
theorem s_meth {k : Nat} {s : Sx E} {es : Exs} {n : Str} {o : Expr} {p1 p : Pos} (B : MvOk X q P k) (hr : Room k X.A) (tk : Takes X W)
    (hst : ∀ e r, es = .cons e r → starEach (e.py :: r.py) X.env = (false, eval e.py X.env) :: starEach r.py X.env ∧ (backTo p (starEach r.py X.env)).any (·.1) = false)
    (hb : attributeBase o n X.env (eval o X.env) = eval o X.env)
    (hf : methodCallForm (es.py.length + ([] : List Keyword).length) (backTo p (starEach es.py X.env)) (backToKw p (keywordEach [] X.env)) = true) (hl : (p1.endLine == p.line) = true)
    (ha : SE X q W s o) (hu : SA X q W (es.ev P) es.py) : SE X q W (sMeth P s n (es.ev P)) (.Call (.Attribute o n p1) es.py [] p) := by
  intro ρ G σ H m Q ME M F
  obtain ⟨v, G1, ev, F1⟩ := nox_cases F
  obtain ⟨f, hm, F1⟩ := (show ∃ f, methE P G1 n v = some f ∧ Fin (dW X q) W σ m H ((es.ev P ρ G1).bind fun xs G2 => if xs.length + 1 = f.2 then P.cl f.1 (v :: xs) G2 else .bad) (RV X.K) Q by
    cases e : methE P G1 n v with
    | none => rw [e] at F1; exact F1.elim
    | some f => rw [e] at F1; exact ⟨f, rfl, F1⟩)
  obtain ⟨i, c, fs, rfl, hi, hlk, hmv⟩ := meth_of hm
  obtain ⟨f, np⟩ := f
  obtain ⟨fd, ps, b1, b2, b3, b4, b5⟩ := B c n f np hmv
  have key : ∀ tA : TA, Snd (dW X q) W (es.ev P) (RVs X.K) tA → tMethA (He.ga X.K c) n (spF X.K q P f np) (WE W) (wE X o) tA σ H Q := by
    intro tA hu
    refine ha ρ G σ H m _ ME M (Fin.of_ok ev fun m1 x' H1 e1 M1 r1 => ?_)
    obtain ⟨a, dx, vs, rfl, h1, rs⟩ := ins_at M1 r1 hi
    refine ⟨a, dx, vs, rfl, h1, rs.valN hlk, ?_⟩
    refine hu ρ G1 σ H1 m1 _ (ME.ext e1) M1 ((Fin.ext F1 e1).bind fun xs G2 m2 xs' H2 _ e2 M2 r2 F2 => ?_)
    split at F2
    · rename_i hlen
      exact ⟨by rw [List.length_cons, ← r2.length]; exact hlen, m2, .ref i :: xs, G2, .cons (r1.ext e2) r2, M2, Fin.st F2 fun _ _ _ h => h⟩
    · exact F2.elim
  cases es with
  | nil => exact ⟨_, pe_methA0 pe_w b1 b2 b5 hr b3 (fun σ => passAt tk σ) hb hl, key tNil fun ρ G σ H m Q ME M F => Fin.here F M .nil⟩
  | cons e r =>
    obtain ⟨w1, w2⟩ := hst e r rfl
    exact ⟨_, pe_methA pe_w b1 b2 b5 hr b3 (fun σ => passAt tk σ) pa_w w1 w2 hb hf hl, key (wA X (e.py :: r.py)) hu⟩
/-! ### a new instance -/
def CiOk (X : Cx) (q : Wq) (P : Par) (k : Nat) : Prop := ∀ c f np, P.ci c = some (f, np) → ∃ fd ps, Mk X.K (He.ga X.K c) (He.ma X.K (He.ga X.K c) "__init__") ∧ X.mg c = some (.ref (He.ga X.K c)) ∧ (c == ("__debug__" : Str)) = false ∧ L2.Binds X.K fd ps [] ∧ ps.length = np ∧
  FnOk X.prog X.w X.K X.mg X.base (L2.CX X.prog X.w) k (He.ma X.K (He.ga X.K c) "__init__") fd ps (spF X.K q P f np)
theorem s_make {k : Nat} {c : Str} {es : Exs} {p1 p : Pos} (B : CiOk X q P k) (hr : Room (k + 1) X.A) (hg : Gl X c)
    (hst : ∀ e r, es = .cons e r → starEach (e.py :: r.py) X.env = (false, eval e.py X.env) :: starEach r.py X.env ∧ (backTo p (starEach r.py X.env)).any (·.1) = false)
    (hu : SA X q W (es.ev P) es.py) : SE X q W (sMake P c (es.ev P)) (.Call (.Name c p1) es.py [] p) := by
  intro ρ G σ H m Q ME M F
  obtain ⟨f, hc, F⟩ := (show ∃ f, P.ci c = some f ∧ Fin (dW X q) W σ m H ((es.ev P ρ G).bind fun xs G1 => if xs.length + 1 = f.2 then ((P.cl f.1 (.ref G1.length :: xs) (G1 ++ [.ins c []])).nox).bind fun v G2 => (match v with
      | .non => .ok (.ref G1.length) G2
      | _ => .bad) else .bad) (RV X.K) Q by
    unfold sMake at F
    cases e : P.ci c with
    | none => rw [e] at F; exact F.elim
    | some f => rw [e] at F; exact ⟨f, rfl, F⟩)
  obtain ⟨f, np⟩ := f
  obtain ⟨fd, ps, b1, b2, b3, b4, b5, b6⟩ := B c f np hc
  have hx : Passes (L2.CX X.prog X.w) X (WE W0 σ) := fun pins σ1 H1 s e s' I z => passAt (W := W0) LamX.takes0 σ1 pins H1 s e s' I z
  have key : ∀ tA : TA, Snd (dW X q) W (es.ev P) (RVs X.K) tA → tMake (He.ga X.K c) (spF X.K q P f np) [] (WE W0 σ) tA σ H Q := by
    intro tA hu
    refine hu ρ G σ H m _ ME M (F.bind fun xs G1 m1 xs' H1 _ e1 M1 r1 F1 => ?_)
    intro x dx hx1 hx2 hne
    split at F1
    · rename_i hlen
      obtain ⟨v, G2, e2, F2⟩ := nox_cases F1
      have hx3 : (upd H1 dx (.own x)) x = none := by rw [upd_ne (Ne.symm hne)]; exact hx1
      have j1 : Ext m1 H1 m1 (upd H1 dx (.own x)) := Ext.junk hx2
      have j2 : Ext m1 (upd H1 dx (.own x)) m1 (upd (upd H1 dx (.own x)) x (.ins (He.ga X.K c) dx [])) := Ext.junk hx3
      have M2 := (M1.junk (o := .own x) hx2).junk (o := .ins (He.ga X.K c) dx []) hx3
      have hn : ∀ n, m1 n ≠ some x := M1.ne_none hx1
      have M3 := M2.add (o := .ins c []) hn ⟨dx, [], upd_same, .nil⟩
      have j3 : Ext m1 H1 (Mp.add m1 G1.length x) (upd (upd H1 dx (.own x)) x (.ins (He.ga X.K c) dx [])) := by
        have j := j1.trans j2
        refine ⟨fun n b h => Mp.add_mono M1 n b (j.mono n b h), j.stay, j.tups, fun n b h => ?_, j.there⟩
        unfold Mp.add at h
        split at h
        · cases h; exact .inr (.inl hx1)
        · exact j.new n b h
      show spF X.K q P f np (.ref x :: (xs' ++ [])) _ _ _
      rw [List.append_nil]
      refine ⟨by rw [List.length_cons, ← r1.length]; exact hlen, _, .ref G1.length :: xs, _, .cons (.ref Mp.add_self) (r1.ext j3), M3, ?_⟩
      refine Fin.of_ok e2 fun m4 v' H4 e4 M4 r4 => ?_
      cases v with
      | non =>
        cases r4
        exact ⟨rfl, F2 m4 (.ref x) H4 (j3.trans e4) M4 (.ref (e4.mono _ _ Mp.add_self))⟩
      | _ => exact F2.elim
    · exact F1.elim
  cases es with
  | nil => exact ⟨_, pe_make0 b1 b6 hr hg b2 b4 .nil hx b3, key tNil fun ρ G σ H m Q ME M F => Fin.here F M .nil⟩
  | cons e r =>
    obtain ⟨w1, w2⟩ := hst e r rfl
    exact ⟨_, pe_make b1 b6 hr hg b2 b4 .nil hx pa_w b3 w1 w2, key (wA X (e.py :: r.py)) hu⟩
/-! ### dicts -/
theorem s_dct0 {p : Pos} : SE X q W sDct0 (.Dict [] [] p) := by
  intro ρ G σ H m Q ME M F
  refine ⟨_, pe_dnewK, fun a ha => ?_⟩
  have hn : ∀ n, m n ≠ some a := M.ne_none ha
  refine F (Mp.add m G.length a) (.ref a) _ ?_ ((M.junk ha).add hn ⟨[], upd_same, .nil⟩) (.ref Mp.add_self)
  have j : Ext m H m (upd H a (.dK [])) := Ext.junk ha
  refine ⟨fun n b h => Mp.add_mono M n b h, j.stay, j.tups, fun n b h => ?_, j.there⟩
  unfold Mp.add at h
  split at h
  · cases h; exact .inr (.inl ha)
  · exact .inl h
theorem dct_at {G : Hq} {m : Mp} {H : Hp} {x : E} {x' : V} {kvs : List (Str × E)} (M : MtG (dW X q) m H G) (r : RV X.K m H x x') (h : dctE G x = some kvs) :
    ∃ i a vs, x = .ref i ∧ x' = .ref a ∧ G[i]? = some (.dct kvs) ∧ m i = some a ∧ H a = some (.dK vs) ∧ RKs X.K m H kvs vs := by
  cases r with
  | @ref i a hn =>
    simp only [dctE] at h
    cases e : G[i]? with
    | none => rw [e] at h; cases h
    | some o =>
      rw [e] at h
      have ob := M.obj i o a e hn
      cases o with
      | dct kvs => cases h; obtain ⟨vs, h1, rs⟩ := ob; exact ⟨i, a, vs, rfl, rfl, e, hn, h1, rs⟩
      | _ => cases h
  | _ => cases h
theorem Fin.opt {α β γ : Type} {o : Option α} {G : Hq} {f : α → Hq → R β} {D : Wd} {σ : L2.St} {m : Mp} {H : Hp} {rel : Mp → Hp → β → γ → Prop} {Q : γ → Hp → Prop} (F : Fin D W σ m H ((optR o G).bind f) rel Q) : ∃ v, o = some v ∧ Fin D W σ m H (f v G) rel Q := by
  cases o with
  | none => exact F.elim
  | some v => exact ⟨v, rfl, F⟩
theorem s_dcp {s : Sx E} {a : Expr} {p1 p : Pos} (hg : Gl X "dict") (hm : X.mg "dict" = none) (hs : starEach [a] X.env = [(false, eval a X.env)]) (ha : SE X q W s a) : SE X q W (sDcp s) (.Call (.Name "dict" p1) [a] [] p) := by
  intro ρ G σ H m Q ME M F
  refine ⟨_, pe_callTy (T := "dict") call_dictD hg hm rfl (pa_cons pe_w pa_nil hs) (he := hs), ?_⟩
  refine ha ρ G σ H m _ ME M (F.bind fun x G1 m1 x' H1 _ e1 M1 r1 F1 => ?_)
  obtain ⟨kvs, hk, F2⟩ := F1.opt
  obtain ⟨i, a, vs, rfl, rfl, h1, h2, h3, rs⟩ := dct_at M1 r1 hk
  refine ⟨a, vs, rfl, .inl h3, fun b hb => ?_⟩
  have hn : ∀ n, m1 n ≠ some b := M1.ne_none hb
  have j : Ext m1 H1 m1 (upd H1 b (.dK vs)) := Ext.junk hb
  refine F2 (Mp.add m1 G1.length b) (.ref b) _ ?_ ((M1.junk hb).add hn ⟨vs, upd_same, (rs.ext j).tr (Mp.add_mono M1) fun _ _ z => z⟩) (.ref Mp.add_self)
  refine ⟨fun n d h => Mp.add_mono M1 n d h, j.stay, j.tups, fun n d h => ?_, j.there⟩
  unfold Mp.add at h
  split at h
  · cases h; exact .inr (.inl hb)
  · exact .inl h
theorem RKs.valN {K : PySem.W.Frag} {m : Mp} {H : Hp} {x : Str} : ∀ {kvs : List (Str × E)} {vs : List (Key × V)}, RKs K m H kvs vs → kvs.lookup x = none → valV vs (.inr x) = none
  | [], _, .nil, h => rfl
  | (y, a) :: kvs, (_, v) :: vs, .cons r rs, h => by
    rw [List.lookup_cons] at h
    cases q : x == y with
    | true => rw [q] at h; cases h
    | false =>
      rw [q] at h
      have ne : ¬ x = y := by simpa using q
      rw [valV_neg fun z => ne (Sum.inr.inj z).symm]
      exact RKs.valN rs h
theorem RV.strE {K : PySem.W.Frag} {m : Mp} {H : Hp} {x : E} {v : V} {s : Str} (r : RV K m H x v) (h : Lt.strE x = some s) : v = .str s := by
  cases r <;> cases h; rfl
theorem RKs.drop {K : PySem.W.Frag} {m : Mp} {H : Hp} {x : Str} : ∀ {kvs : List (Str × E)} {vs : List (Key × V)}, RKs K m H kvs vs → RKs K m H (dropS kvs x) (dropK vs (.inr x))
  | [], _, .nil => .nil
  | (y, a) :: kvs, (_, v) :: vs, .cons r rs => by
    unfold dropS dropK
    by_cases h : y = x
    · rw [List.filter_cons_of_neg (by simpa using h), List.filter_cons_of_neg (by simpa using h)]
      exact RKs.drop rs
    · rw [List.filter_cons_of_pos (by simpa using h), List.filter_cons_of_pos (by simpa using h)]
      exact .cons r (RKs.drop rs)
section
variable {sa sk sd : Sx E} {a e d : Expr} {p1 p : Pos}
theorem s_dget (hu : X.A.units + 100 < cLine) (M2' : M2 X a "get" p1 e d p) (ha : SE X q W sa a) (hk : SE X q W sk e) (hd : SE X q W sd d) : SE X q W (sDget sa sk sd) (.Call (.Attribute a "get" p1) [e, d] [] p) := by
  intro ρ G σ H m Q ME M F
  refine ⟨_, pe_dget2 (by omega) pe_w pe_w pe_w M2', ?_⟩
  refine ha ρ G σ H m _ ME M (F.bind fun x G1 m1 x' H1 _ e1 M1 r1 F1 => ?_)
  obtain ⟨kvs0, h0, F1⟩ := F1.opt
  obtain ⟨i, b, vs0, rfl, rfl, g1, g2, g3, g4⟩ := dct_at M1 r1 h0
  refine ⟨b, rfl, .inl ⟨_, .inl g3⟩, ?_⟩
  refine hk ρ G1 σ H1 m1 _ (ME.ext e1) M1 (F1.bind fun y G2 m2 y' H2 _ e2 M2 r2 F2 => ?_)
  refine hd ρ G2 σ H2 m2 _ ((ME.ext e1).ext e2) M2 (F2.bind fun z G3 m3 z' H3 _ e3 M3 r3 F3 => ?_)
  obtain ⟨kvs, h3, F3⟩ := F3.opt
  obtain ⟨s, hs, F3⟩ := F3.opt
  obtain ⟨i2, b2, vs, q1, q2, g5, g6, g7, g8⟩ := dct_at M3 ((r1.ext e2).ext e3) h3
  cases q2
  have ey := (r2.ext e3).strE hs
  subst ey
  cases hl : kvs.lookup s with
  | none =>
    rw [hl] at F3
    exact ⟨none, .inl ⟨vs, .inr s, .inl g7, rfl, (g8.valN hl).symm⟩, F3.here M3 r3⟩
  | some w =>
    rw [hl] at F3
    obtain ⟨w', h4, h5⟩ := g8.val hl
    exact ⟨some w', .inl ⟨vs, .inr s, .inl g7, rfl, h4.symm⟩, F3.here M3 h5⟩
theorem s_dpop (M2' : M2 X a "pop" p1 e d p) (ha : SE X q W sa a) (hk : SE X q W sk e) (hd : SE X q W sd d) : SE X q W (sDpop sa sk sd) (.Call (.Attribute a "pop" p1) [e, d] [] p) := by
  intro ρ G σ H m Q ME M F
  refine ⟨_, pe_dpop2 pe_w pe_w pe_w M2', ?_⟩
  refine ha ρ G σ H m _ ME M (F.bind fun x G1 m1 x' H1 _ e1 M1 r1 F1 => ?_)
  obtain ⟨kvs0, h0, F1⟩ := F1.opt
  obtain ⟨i, b, vs0, rfl, rfl, g1, g2, g3, g4⟩ := dct_at M1 r1 h0
  refine ⟨b, rfl, .inl ⟨_, .inl g3⟩, ?_⟩
  refine hk ρ G1 σ H1 m1 _ (ME.ext e1) M1 (F1.bind fun y G2 m2 y' H2 _ e2 M2 r2 F2 => ?_)
  refine hd ρ G2 σ H2 m2 _ ((ME.ext e1).ext e2) M2 (F2.bind fun z G3 m3 z' H3 _ e3 M3 r3 F3 => ?_)
  obtain ⟨kvs, h3, F3⟩ := F3.opt
  obtain ⟨s, hs, F3⟩ := F3.opt
  obtain ⟨n, hn, F3⟩ := F3.opt
  cases hn
  obtain ⟨i2, b2, vs, q1, q2, g5, g6, g7, g8⟩ := dct_at M3 ((r1.ext e2).ext e3) h3
  cases q2
  cases q1
  have ey := (r2.ext e3).strE hs
  subst ey
  refine ⟨vs, .inr s, g7, rfl, fun v hv => ?_, fun hv => ?_⟩
  · cases hl : kvs.lookup s with
    | none => rw [g8.valN hl] at hv; cases hv
    | some w =>
      rw [hl] at F3
      obtain ⟨w', h4, h5⟩ := g8.val hl
      rw [hv] at h4
      cases h4
      have ee : Ext m3 H3 m3 (upd H3 b (.dK (dropK vs (.inr s)))) := Ext.put M3 g5 g6 fun ps z => nomatch z
      exact F3.to ee (M3.put g5 g6 ⟨_, upd_same, g8.drop.ext ee⟩) (h5.ext ee)
  · cases hl : kvs.lookup s with
    | none => rw [hl] at F3; exact F3.here M3 r3
    | some w =>
      obtain ⟨w', h4, h5⟩ := g8.val hl
      rw [hv] at h4
      cases h4
end
/-! ### a op b op c -/
theorem marks_ok {o1 o2 : COp} {b c : Expr} : lastMarks [o1.py, o2.py] [b, c] = false := by
  show behindInMarks o2.py c = false
  exact nomark' c
theorem st_chain {o1 o2 : COp} {sa sb sc : Sx E} {a b c : Expr} {p : Pos} (hu : X.A.units + 100 < cLine) (ha : SE X q W sa a) (hb : SE X q W sb b) (hc : SE X q W sc c) : ST X q W (sChain o1 o2 sa sb sc) (.Compare a [o1.py, o2.py] [b, c] p) := by
  intro ρ G σ H m Q ME M F
  refine ⟨_, pt_chain op_w op_w pe_w pe_w pe_w marks_ok, ?_⟩
  refine ha ρ G σ H m _ ME M (F.bind fun x G1 m1 x' H1 _ e1 M1 r1 F1 => ?_)
  refine hb ρ G1 σ H1 m1 _ (ME.ext e1) M1 (F1.bind fun y G2 m2 y' H2 _ e2 M2 r2 F2 => ?_)
  obtain ⟨k, hk, F2⟩ := F2.opt
  refine op_cmp hu (r1.ext e2) r2 hk ⟨k, rfl, ?_⟩
  cases k with
  | false => exact ⟨false, rfl, F2.here M2 rfl⟩
  | true =>
    rw [if_pos rfl] at F2 ⊢
    refine hc ρ G2 σ H2 m2 _ ((ME.ext e1).ext e2) M2 (F2.bind fun z G3 m3 z' H3 _ e3 M3 r3 F3 => ?_)
    obtain ⟨k2, hk2, F3⟩ := optR_fin F3
    exact op_cmp hu (r2.ext e3) r3 hk2 ⟨k2, rfl, F3.here M3 rfl⟩
theorem s_chain {o1 o2 : COp} {sa sb sc : Sx E} {a b c : Expr} {p : Pos} (hu : X.A.units + 100 < cLine) (ha : SE X q W sa a) (hb : SE X q W sb b) (hc : SE X q W sc c) : SE X q W (sBl (sChain o1 o2 sa sb sc)) (.Compare a [o1.py, o2.py] [b, c] p) := by
  intro ρ G σ H m Q ME M F0
  have F := fin_bl F0
  refine ⟨_, pe_chain op_w op_w pe_w pe_w pe_w marks_ok, ?_⟩
  refine ha ρ G σ H m _ ME M (F.bind fun x G1 m1 x' H1 _ e1 M1 r1 F1 => ?_)
  refine hb ρ G1 σ H1 m1 _ (ME.ext e1) M1 (F1.bind fun y G2 m2 y' H2 _ e2 M2 r2 F2 => ?_)
  obtain ⟨k, hk, F2⟩ := F2.opt
  refine op_cmp hu (r1.ext e2) r2 hk ⟨k, rfl, ?_⟩
  cases k with
  | false => exact F2.here M2 rfl
  | true =>
    rw [if_pos rfl] at F2 ⊢
    refine hc ρ G2 σ H2 m2 _ ((ME.ext e1).ext e2) M2 (F2.bind fun z G3 m3 z' H3 _ e3 M3 r3 F3 => ?_)
    obtain ⟨k2, hk2, F3⟩ := optR_fin F3
    exact op_cmp hu (r2.ext e3) r3 hk2 (F3.here M3 rfl)
/-! ### tuple(t), min(a, b), list(t) -/
theorem s_tupE {s : Sx E} {a : Expr} {p1 p : Pos} (hg : Gl X "tuple") (hm : X.mg "tuple" = none) (hs : starEach [a] X.env = [(false, eval a X.env)]) (ha : SE X q W s a) : SE X q W (sTupE s) (.Call (.Name "tuple" p1) [a] [] p) := by
  intro ρ G σ H m Q ME M F
  refine ⟨_, pe_callTy (T := "tuple") call_tupleT hg hm rfl (pa_cons pe_w pa_nil hs) (he := hs), ?_⟩
  refine ha ρ G σ H m _ ME M (F.bind fun x G1 m1 x' H1 _ e1 M1 r1 F1 => ?_)
  cases r1 with
  | tup t rs => exact ⟨_, _, rfl, t.sq, Fin.here F1 M1 (.tup t rs)⟩
  | _ => exact F1.elim
theorem s_min2 {sa sb : Sx E} {a b : Expr} {p1 p : Pos} (C : CxG X W) (hg : Gl X "min") (hm : X.mg "min" = none) (hs : starEach [a, b] X.env = [(false, eval a X.env), (false, eval b X.env)]) (hs2 : starEach [b] X.env = [(false, eval b X.env)]) (ha : SE X q W sa a) (hb : SE X q W sb b) :
    SE X q W (sMin2 sa sb) (.Call (.Name "min" p1) [a, b] [] p) := by
  intro ρ G σ H m Q ME M F
  refine ⟨_, pe_callB (id := "min") (call_min2 C.calm) hg hm rfl (pa_cons pe_w (pa_cons pe_w pa_nil hs2) (by rw [hs, hs2])) (he := by rw [hs, hs2]) (hpl := by rw [hs2]; rfl), ?_⟩
  refine ha ρ G σ H m _ ME M (F.bind fun x G1 m1 x' H1 _ e1 M1 r1 F1 => ?_)
  refine hb ρ G1 σ H1 m1 _ (ME.ext e1) M1 (F1.bind fun y G2 m2 y' H2 _ e2 M2 r2 F2 => ?_)
  obtain ⟨z, hz, F2⟩ := optR_fin F2
  cases r1 with
  | int i =>
    cases r2 with
    | int j => cases hz; exact ⟨i, j, rfl, F2.here M2 (.int _)⟩
    | _ => cases hz
  | _ => cases hz
theorem l_listT {s : Sx E} {a : Expr} {p1 p : Pos} (hg : Gl X "list") (hm : X.mg "list" = none) (hs : starEach [a] X.env = [(false, eval a X.env)]) (ha : SE X q W s a) : SL X q W (sListT s) (.Call (.Name "list" p1) [a] [] p) := by
  intro ρ G σ H m Q ME M F
  refine ⟨_, pe_callTy (T := "list") call_list_of hg hm rfl (pa_cons pe_w pa_nil hs) (he := hs), ?_⟩
  refine ha ρ G σ H m _ ME M (F.bind fun x G1 m1 x' H1 _ e1 M1 r1 F1 => ?_)
  cases r1 with
  | tup t rs => exact ⟨_, _, rfl, .inr t.sq, fun l hl => fin_tmp M1 F1 rs hl (e1.there _)⟩
  | _ => exact F1.elim
end
end Lt
end
section
set_option Elab.async false
set_option linter.all false
set_option maxRecDepth 100000
/-! Lt: soundness of the wider statements. -/
namespace Lt
open PySem PySem.Spec PyProof.Rows L2
/-! ### texts in order -/
def leL (x y : List Nat) : Bool := !PySem.Spec.ltCps y x
theorem leL_nil (y : List Nat) : leL [] y = true := by cases y <;> rfl
theorem leL_cons (p r : Nat) (x y : List Nat) : leL (p :: x) (r :: y) = true ↔ p < r ∨ (p = r ∧ leL x y = true) := by
  unfold leL
  simp only [PySem.Spec.ltCps, Bool.not_eq_true', Bool.or_eq_false_iff, Bool.and_eq_false_iff, decide_eq_false_iff_not, beq_eq_false_iff_ne]
  constructor
  · rintro ⟨h1, h2 | h2⟩
    · exact .inl (by omega)
    · by_cases e : p = r
      · exact .inr ⟨e, h2⟩
      · exact .inl (by omega)
  · rintro (h | ⟨rfl, h⟩)
    · exact ⟨by omega, .inl (by omega)⟩
    · exact ⟨by omega, .inr h⟩
theorem leL_cn (p : Nat) (x : List Nat) : leL (p :: x) [] = false := rfl
theorem leL_trans : ∀ x y z : List Nat, leL x y = true → leL y z = true → leL x z = true
  | [], _, z, _, _ => leL_nil z
  | p :: x, [], _, h, _ => by rw [leL_cn] at h; cases h
  | p :: x, r :: y, [], _, h => by rw [leL_cn] at h; cases h
  | p :: x, r :: y, t :: z, h1, h2 => by
    rw [leL_cons] at *
    rcases h1 with h1 | ⟨h1, g1⟩
    · rcases h2 with h2 | ⟨h2, g2⟩ <;> exact .inl (by omega)
    · rcases h2 with h2 | ⟨h2, g2⟩
      · exact .inl (by omega)
      · exact .inr ⟨by omega, leL_trans x y z g1 g2⟩
theorem leL_total : ∀ x y : List Nat, leL x y = true ∨ leL y x = true
  | [], y => .inl (leL_nil y)
  | x, [] => .inr (leL_nil x)
  | p :: x, r :: y => by
    rw [leL_cons, leL_cons]
    rcases leL_total x y with h | h
    · by_cases e : p = r
      · exact .inl (.inr ⟨e, h⟩)
      · by_cases e2 : p < r
        · exact .inl (.inl e2)
        · exact .inr (.inl (by omega))
    · by_cases e : p = r
      · exact .inr (.inr ⟨e.symm, h⟩)
      · by_cases e2 : p < r
        · exact .inl (.inl e2)
        · exact .inr (.inl (by omega))
theorem leL_anti : ∀ x y : List Nat, leL x y = true → leL y x = true → x = y
  | [], [], _, _ => rfl
  | [], r :: y, _, h => by rw [leL_cn] at h; cases h
  | p :: x, [], h, _ => by rw [leL_cn] at h; cases h
  | p :: x, r :: y, h1, h2 => by
    rw [leL_cons] at *
    rcases h1 with h1 | ⟨h1, g1⟩
    · rcases h2 with h2 | ⟨h2, g2⟩ <;> omega
    · rcases h2 with h2 | ⟨h2, g2⟩
      · omega
      · rw [h1, leL_anti x y g1 g2]
theorem leS_trans (a b c : Str) (h1 : leS a b = true) (h2 : leS b c = true) : leS a c = true := leL_trans _ _ _ h1 h2
theorem leS_total (a b : Str) : (leS a b || leS b a) = true := Bool.or_eq_true_iff.mpr (leL_total _ _)
theorem leS_anti (a b : Str) (h1 : leS a b = true) (h2 : leS b a = true) : a = b := by
  have this := leL_anti _ _ h1 h2
  obtain ⟨⟨x⟩⟩ := a
  obtain ⟨⟨y⟩⟩ := b
  simp only at this
  rw [this]
theorem sorted_pw : ∀ (ys : List Str), sortedS ys = true → ys.Pairwise fun a b => leS a b = true := by
  have key : ∀ (r : List Str) (p : Str), risingS p r = true → (p :: r).Pairwise fun a b => leS a b = true := by
    intro r
    induction r with
    | nil => intro p _; exact List.pairwise_singleton _ _
    | cons x r ih =>
      intro p h
      unfold risingS at h
      rw [Bool.and_eq_true] at h
      have h2 := ih x h.2
      refine .cons (fun z hz => ?_) h2
      rcases List.mem_cons.mp hz with rfl | hz
      · exact h.1
      · exact leS_trans p x z h.1 ((List.pairwise_cons.mp h2).1 z hz)
  intro ys h
  cases ys with
  | nil => exact .nil
  | cons x r => exact key r x h
theorem keys_eq {kvs : List (Str × E)} {ys : List Str} (hp : ys.Perm (kvs.map (·.1))) (hs : sortedS ys = true) : ys = keysOf kvs := by
  unfold keysOf
  exact List.Perm.eq_of_pairwise (le := fun a b => leS a b = true) (fun a b _ _ h1 h2 => leS_anti a b h1 h2) (sorted_pw ys hs) (List.pairwise_mergeSort (le := leS) leS_trans leS_total _) (hp.trans (List.mergeSort_perm _ _).symm)
theorem RKs.keys {K : PySem.W.Frag} {m : Mp} {H : Hp} : ∀ {kvs : List (Str × E)} {vs : List (Key × V)}, RKs K m H kvs vs → vs.map (·.1) = (kvs.map (·.1)).map Sum.inr
  | _, _, .nil => rfl
  | _, _, .cons _ r => by rw [List.map_cons, List.map_cons, List.map_cons, RKs.keys r]
theorem rv_strs {K : PySem.W.Frag} {m : Mp} {H : Hp} : ∀ l : List Str, RVs K m H (l.map E.str) (l.map V.str)
  | [] => .nil
  | c :: l => .cons (.str _) (rv_strs l)
section
variable {X : Cx} {q : Wq} {W : WX} {P : Par}
/-! ### stores -/
def ndN (x : Str) : Prop := (x == ("__debug__" : Str)) = false ∧ (x == ("__classdict__" : Str)) = false
def SubAs (X : Cx) (o k : Expr) (p1 : Pos) : Prop := ∀ v, assign (.Subscript o k p1) X.env v = (do
      let ov ← holding [v] (eval o X.env)
      let iv ← holding [v, ov] (eval k X.env)
      standAt p1
      holding [v, ov, iv] (setItem ov iv v)
      release [v, ov, iv] [])
theorem q_setI {so sk se : Sx E} {o k e : Expr} {p1 p : Pos} (hpk : SubAs X o k p1) (hs : swapsWith e (some (.Subscript o k p1)) p.line X.env = pure false) (ho : SE X q W so o) (hk : SE X q W sk k) (he : SE X q W se e) : SS X q W (qSetI so sk se) (.Assign [.Subscript o k p1] e p) := by
  intro ρ G σ H m E ME M F
  refine ⟨_, ps_asg pe_w (pg_sub pe_w pe_w set_list hpk) (by unfold swapsWithSole; exact hs) (by rfl), ?_⟩
  refine he ρ G σ H m _ ME M (FinS.bind F ME fun v G1 m1 v' H1 _ e1 M1 r1 F1 => ?_)
  refine ho ρ G1 σ H1 m1 _ (ME.ext e1) M1 (FinS.bind F1 (ME.ext e1) fun x G2 m2 x' H2 _ e2 M2 r2 F2 => ?_)
  refine hk ρ G2 σ H2 m2 _ ((ME.ext e1).ext e2) M2 (FinS.bind F2 ((ME.ext e1).ext e2) fun y G3 m3 y' H3 _ e3 M3 r3 F3 => ?_)
  have N3 := ((ME.ext e1).ext e2).ext e3
  have r1' := (r1.ext e2).ext e3
  cases r2 with
  | @ref n a hn =>
    have hn3 := e3.mono n a hn
    cases r3 with
    | int i =>
      cases hg : G3[n]? with
      | none => simp only [hg] at F3; exact F3.elim
      | some ob =>
        have obr := M3.obj n ob a hg hn3
        cases ob with
        | lst xs =>
          simp only [hg] at F3
          cases hj : ixN xs.length i with
          | none => simp only [hj] at F3; exact F3.elim
          | some j =>
            simp only [hj] at F3
            obtain ⟨vs, h1, r⟩ := obr
            have ee : Ext m3 H3 m3 (upd H3 a (.lst (vs.set j v'))) := Ext.put M3 hg hn3 fun ps z => nomatch z
            have rs : RVs X.K m3 H3 (xs.set j v) (vs.set j v') := by
              have key : ∀ (xs : List Lt.E) (vs : List V) (j : Nat), RVs X.K m3 H3 xs vs → RVs X.K m3 H3 (xs.set j v) (vs.set j v') := by
                intro xs
                induction xs with
                | nil => intro vs j h; cases h; exact .nil
                | cons x xs ih =>
                  intro vs j h
                  cases h with
                  | cons h1 h2 =>
                    cases j with
                    | zero => exact .cons r1' h2
                    | succ j => exact .cons h1 (ih _ j h2)
              exact key xs vs j r
            exact ⟨a, vs, i, j, rfl, rfl, h1, by rw [← r.length]; exact hj, F3 m3 σ _ ee (M3.put hg hn3 ⟨_, upd_same, rs.ext ee⟩) (N3.ext ee)⟩
        | _ => simp only [hg] at F3; exact F3.elim
    | _ => exact F3.elim
  | _ => exact F3.elim
theorem q_setA {so se : Sx E} {o e : Expr} {f : Str} {p1 p : Pos} (A : AvOk X.K P) (hs : swapsWith e (some (.Attribute o f p1)) p.line X.env = pure false) (ho : SE X q W so o) (he : SE X q W se e) : SS X q W (qSetA P so f se) (.Assign [.Attribute o f p1] e p) := by
  intro ρ G σ H m E ME M F
  refine ⟨_, ps_fld pe_w pe_w hs, ?_⟩
  refine he ρ G σ H m _ ME M (FinS.bind F ME fun v G1 m1 v' H1 _ e1 M1 r1 F1 => ?_)
  refine ho ρ G1 σ H1 m1 _ (ME.ext e1) M1 (FinS.bind F1 (ME.ext e1) fun x G2 m2 x' H2 _ e2 M2 r2 F2 => ?_)
  cases hp : setAtt P x f v G2 with
  | none => simp only [hp] at F2; exact F2.elim
  | some G3 =>
    simp only [hp] at F2
    obtain ⟨a, C, dx, vs, ex, h1, h2, h3, h4, ee, M3, _⟩ := att_put A M2 r2 (r1.ext e2) hp
    exact ⟨a, C, dx, vs, ex, h1, h2, h3, h4, F2 m2 σ _ ee M3 (((ME.ext e1).ext e2).ext ee)⟩
def wIn (X : Cx) (op : Operator) : V → V → Hp → VK → Prop := fun x y H Q => ∃ r, OpR X (inplaceOp op) r ∧ r x y H Q
theorem in_w {op : Operator} : InOp X op (wIn X op) := fun pins s σ H x y u v Q I rx ry ⟨r, h, q⟩ => h pins s σ H x y u v Q I rx ry q
theorem FinS.opt {α : Type} {o : Option α} {G : Hq} {ρ : Ro} {f : α → Hq → RS} {D : Wd} {m : Mp} {H : Hp} {E : Ends} (F : FinS D W m H ((optR o G).st ρ f) E) : ∃ v, o = some v ∧ FinS D W m H (f v G) E := by
  cases o with
  | none => exact F.elim
  | some v => exact ⟨v, rfl, F⟩
theorem q_augA {op : BOp} {sa se : Sx E} {a e : Expr} {f : Str} {p1 p : Pos} (A : AvOk X.K P) (ha : SE X q W sa a) (he : SE X q W se e) : SS X q W (qAugA P op sa f se) (.AugAssign (.Attribute a f p1) op.py e p) := by
  intro ρ G σ H m E ME M F
  refine ⟨_, ps_fldaug pe_w pe_w in_w, ?_⟩
  refine ha ρ G σ H m _ ME M (FinS.bind F ME fun x G1 m1 x' H1 _ e1 M1 r1 F1 => ?_)
  obtain ⟨u, hu, F2⟩ := F1.opt
  obtain ⟨b, c, dx, vs, u', ex, h1, h2, h3, h4, h5, hc1⟩ := attr_at A M1 r1 hu
  refine ⟨b, _, dx, vs, u', ex, h1, h2, h3, h4, ?_⟩
  refine he ρ G1 σ H1 m1 _ (ME.ext e1) M1 (FinS.bind F2 (ME.ext e1) fun y G2 m2 y' H2 _ e2 M2 r2 F3 => ?_)
  obtain ⟨z, hz, F4⟩ := F3.opt
  refine iop_of (h5.ext e2) r2 hz fun z' rz => ?_
  split at F4
  · rename_i hcls
    cases hp : setAtt P x f z G2 with
    | none => simp only [hp] at F4; exact F4.elim
    | some G3 =>
      simp only [hp] at F4
      obtain ⟨b2, C, dx2, vs2, ex2, g1, g2, g3, g4, ee, M3, c2, hc2, hC⟩ := att_put A M2 (r1.ext e2) rz hp
      rw [ex] at ex2
      cases ex2
      rw [hc1, hc2] at hcls
      cases hcls
      subst hC
      exact ⟨dx2, vs2, g1, g4, F4 m2 σ _ ee M3 (((ME.ext e1).ext e2).ext ee)⟩
  · exact F4.elim
/-- o.f as a target -/
def gFldA (K : PySem.W.Frag) (to : TE) (f : Str) : TG := fun v σ H Q => to σ H fun x H2 => ∃ a C dx fs, x = .ref a ∧ H2 a = some (.ins C dx fs) ∧ Cls K C ∧ NoAttr K C f ∧ fs.length < 1000 ∧ Q σ (upd H2 a (.ins C dx (putF f v fs)))
theorem pg_fldA {o : Expr} {to : TE} {f : Str} {pos : Pos} (ho : PE X o to) : PG X (.Attribute o f pos) (gFldA X.K to f) := by
  refine ⟨fun pins s σ H v u Q I r h => ?_⟩
  rw [assign_Attribute]
  refine wpAny_bind (wpAny_holding (thn (ho.run pins s σ H _ I h) fun ov s1 hu => ?_))
  obtain ⟨x, H2, I2, rx, a, C, dx, fs, rfl, ea, c, n, l, q2⟩ := hu
  cases rx
  exact wpAny_bind (wpAny_standAt (wpAny_bind (wpAny_holding (setattr_ok I2 ea c n l r fun s3 I3 => wpAny_release ⟨σ, _, I3, q2⟩))))
theorem q_parA {so1 so2 se1 se2 : Sx E} {o1 o2 e1 e2 : Expr} {f1 f2 : Str} {k1 k2 : Nat} {q1 q2 p1 p2 p : Pos} (C : CxG X W) (A : AvOk X.K P) (h1 : starEach [e1, e2] X.env = (false, eval e1 X.env) :: starEach [e2] X.env) (h2 : starEach [e2] X.env = (false, eval e2 X.env) :: starEach [] X.env)
    (hs : swapsWithSole [.Tuple [.Attribute o1 f1 q1, .Attribute o2 f2 q2] k1 p1] (.Tuple [e1, e2] k2 p2) p.line X.env = pure false) (hw : swappedStores [.Tuple [.Attribute o1 f1 q1, .Attribute o2 f2 q2] k1 p1] (.Tuple [e1, e2] k2 p2) X.env = pure none)
    (ho1 : SE X q W so1 o1) (ho2 : SE X q W so2 o2) (he1 : SE X q W se1 e1) (he2 : SE X q W se2 e2) : SS X q W (qParA P so1 f1 so2 f2 se1 se2) (.Assign [.Tuple [.Attribute o1 f1 q1, .Attribute o2 f2 q2] k1 p1] (.Tuple [e1, e2] k2 p2) p) := by
  intro ρ G σ H m E ME M F
  refine ⟨_, ps_asg (pe_tup (pa_cons pe_w (pa_cons pe_w pa_nil h2) h1)) (pg_tup C.calm (pgs_cons (pg_fldA pe_w) (pgs_cons (pg_fldA pe_w) pgs_nil))) hs hw, ?_⟩
  refine he1 ρ G σ H m _ ME M (FinS.bind F ME fun v G1 m1 v' H1 _ x1 M1 r1 F1 => ?_)
  refine he2 ρ G1 σ H1 m1 _ (ME.ext x1) M1 (FinS.bind F1 (ME.ext x1) fun w G2 m2 w' H2 _ x2 M2 r2 F2 => ?_)
  refine ⟨by show 2 ≤ sizeLine; rw [sizeLine_eq]; omega, fun t ht => ?_⟩
  have jt : Ext m2 H2 m2 (upd H2 t (.tup [v', w'])) := Ext.junk ht
  have N2 := (((ME.ext x1).ext x2).ext jt)
  have r1' := (r1.ext x2).ext jt
  have r2' := r2.ext jt
  refine ⟨t, [v', w'], rfl, .inl (.inl upd_same), rfl, v', [w'], rfl, ?_⟩
  refine ho1 ρ G2 σ _ m2 _ N2 (M2.junk ht) (FinS.bind (FinS.ext F2 jt) N2 fun x G3 m3 x' H3 _ x3 M3 r3 F3 => ?_)
  cases hp : setAtt P x f1 v G3 with
  | none => simp only [hp] at F3; exact F3.elim
  | some G4 =>
    simp only [hp] at F3
    obtain ⟨a, C1, dx, vs, ex, g1, g2, g3, g4, ee, M4, _⟩ := att_put A M3 r3 (r1'.ext x3) hp
    refine ⟨a, C1, dx, vs, ex, g1, g2, g3, g4, w', [], rfl, ?_⟩
    have N4 := (N2.ext x3).ext ee
    refine ho2 ρ G4 σ _ m3 _ N4 M4 (FinS.bind (FinS.ext F3 ee) N4 fun y G5 m5 y' H5 _ x5 M5 r5 F5 => ?_)
    cases hp2 : setAtt P y f2 w G5 with
    | none => simp only [hp2] at F5; exact F5.elim
    | some G6 =>
      simp only [hp2] at F5
      obtain ⟨a2, C2, dx2, vs2, ex2, g5, g6, g7, g8, ee2, M6, _⟩ := att_put A M5 r5 (((r2'.ext x3).ext ee).ext x5) hp2
      exact ⟨a2, C2, dx2, vs2, ex2, g5, g6, g7, g8, rfl, F5 m5 σ _ ee2 M6 ((N4.ext x5).ext ee2)⟩
/-! ### try -/
/-- a clause's name, what it takes -/
def TfOk (K : PySem.W.Frag) (mg : Str → Option Value) (q : Wq) (P : Par) (g : Nat) (x : Str) : Prop := ∃ CS : Addr, mg x = some (.ref CS) ∧ (x == ("__debug__" : Str)) = false ∧ ∀ cc, P.tf g cc = true → PySem.W.exmOne K (q.xc cc) (.ref CS) = some true
theorem st_cmpU {o : COp} {sa sb : Sx E} {a b : Expr} {p : Pos} (hu : X.A.units + 100 < cLine) (ha : SE X q W sa a) (hb : SE X q W sb b) : ST X q W (sCmp o sa sb) (.Compare a [o.py] [b] p) := by
  intro ρ G σ H m Q ME M F
  refine ⟨_, pt_cmpR op_w pe_w pe_w (nomark' b), ?_⟩
  refine ha ρ G σ H m _ ME M (F.bind fun x G1 m1 x' H1 _ e1 M1 r1 F1 => ?_)
  refine hb ρ G1 σ H1 m1 _ (ME.ext e1) M1 (F1.bind fun y G2 m2 y' H2 _ e2 M2 r2 F2 => ?_)
  obtain ⟨k, hk, F3⟩ := optR_fin F2
  exact op_cmp hu (r1.ext e2) r2 hk ⟨k, rfl, F3.here M2 rfl⟩
/-- what is asked of a clause's suite, wherever it runs -/
def sSuite (X : Cx) (st : Stmt) : Addr → Value → Option Addr → TS := fun a _ _ D σ H => ∀ (oe : Obj) (pn : List (Addr × Obj)), wSs (X.suite a ((a, oe) :: pn)) [st] D σ H
theorem q_tri {b : Ss} {bs : List Stmt} {g i j k : Nat} {o : COp} {x xi xj : Str} {pi pj p1 p2 p3 p4 p5 p6 p : Pos} {v : Bool} (C : CxG X W) (hT : TfOk X.K X.mg q P g x) (hg : Gl X x) (hst : X.stack = X.env :: X.outer) (hfr : X.env.frame = some X.env.locals)
    (hi : X.N[i]? = some xi ∧ Vis X.env.scope xi ∧ ndN xi) (hj : X.N[j]? = some xj ∧ Vis X.env.scope xj ∧ ndN xj)
    (hb : ∀ (W' : WX) (pn : List (Addr × Obj)) (xe : Value → Shared → Prop), Takes (X.tr pn xe) W' → PassesOwn (model X.prog X.w) X.A X.env xe → SSs (X.tr pn xe) q W' b bs) :
    SS X q W (qTri P b g o i j v) (.Try bs [.ExceptHandler (some (.Name x p5)) none [.If (.Compare (.Name xi pi) [o.py] [.Name xj pj] p1) [.Return (some (.Constant (.bool v) k p2)) p3] [] p4] p6] [] [] p) := by
  intro ρ G σ H m E ME M F
  obtain ⟨CS, hm, hd, hex⟩ := hT
  refine ⟨_, ps_try_only (c := .ref CS) (Wout := W) (tb := fun W' D σ H => ∀ (pn : List (Addr × Obj)) (xe : Value → Shared → Prop), Takes (X.tr pn xe) W' → PassesOwn (model X.prog X.w) X.A X.env xe → wSs (X.tr pn xe) bs D σ H)
    (ts := sSuite X (.If (.Compare (.Name xi pi) [o.py] [.Name xj pj] p1) [.Return (some (.Constant (.bool v) k p2)) p3] [] p4))
    hst hfr ⟨hg, hd, .inl hm⟩ C.tk (fun W' pn xe tk po => ⟨fun pins s σ H D I h => ?_⟩) (fun a oe cls d pn hz hf => ⟨fun pins s σ H D I h => ?_⟩), ?_⟩
  · obtain ⟨t, ht, q1⟩ := h pn xe tk po
    exact ht.run pins s σ H D I q1
  · obtain ⟨t, ht, q1⟩ := h oe pn
    exact ht.run pins s σ H D I q1
  · intro pn xe tk po
    refine hb _ pn xe tk po ρ G σ H m E ME M ?_
    unfold qTri at F
    cases hr : b ρ G with
    | nx ρ1 G1 => rw [hr] at F; exact F
    | rt w G1 => rw [hr] at F; exact F
    | bk ρ1 G1 => rw [hr] at F; exact F
    | ct ρ1 G1 => rw [hr] at F; exact F
    | bad => rw [hr] at F; exact F
    | ex c ρ2 G2 =>
      rw [hr] at F
      simp only at F
      intro m2 σ2 H2 d e2 M2 N2
      cases hc : P.tf g c with
      | false => rw [hc] at F; exact F.elim
      | true =>
        rw [hc, if_pos rfl] at F
        refine ⟨true, hex c hc, fun _ a ha oe pn2 => ?_, fun z => nomatch z⟩
        have key : SSs (X.suite a ((a, oe) :: pn2)) q W (fun ρ G => (qIf (sCmp o (sVar i) (sVar j)) (fun ρ G => (qRet (sC (.bl v)) ρ G).seq fun ρ G => .nx ρ G) (fun ρ G => .nx ρ G) ρ G).seq fun ρ G => .nx ρ G) [.If (.Compare (.Name xi pi) [o.py] [.Name xj pj] p1) [.Return (some (.Constant (.bool v) k p2)) p3] [] p4] :=
          ss_cons (q_if (st_cmpU (by have := C.un; show X.A.units + 100 < cLine; exact this) (s_var hi.1 hi.2.1 hi.2.2.1 hi.2.2.2) (s_var hj.1 hj.2.1 hj.2.2.1 hj.2.2.2)) (ss_cons (q_ret s_bl) ss_nil) ss_nil) ss_nil
        refine key ρ2 G2 σ2 H2 m2 E N2 M2 ?_
        have F2 := FinS.ext F e2
        cases h1 : ρ2[i]? with
        | none => rw [h1] at F2; exact F2.elim
        | some o1 =>
          cases o1 with
          | none => rw [h1] at F2; exact F2.elim
          | some u1 =>
            cases h2 : ρ2[j]? with
            | none => rw [h1, h2] at F2; exact F2.elim
            | some o2 =>
              cases o2 with
              | none => rw [h1, h2] at F2; exact F2.elim
              | some u2 =>
                rw [h1, h2] at F2
                simp only at F2
                cases h3 : cmpop o u1 u2 with
                | none => rw [h3] at F2; exact F2.elim
                | some kk =>
                  rw [h3] at F2
                  have e1 : sCmp o (sVar i) (sVar j) ρ2 G2 = .ok kk G2 := by
                    simp only [sCmp, sVar, h1, h2, R.bind_ok, h3, optR_some]
                  unfold qIf
                  simp only [e1, R.st_ok]
                  cases kk with
                  | true => exact F2
                  | false => exact F2
end
end Lt
end
section
set_option Elab.async false
set_option linter.all false
set_option maxRecDepth 100000
/-! Lt: what is checked of a program of the small language; the soundness of all that passes. -/
namespace Lt
open PySem PySem.Spec PyProof.Rows L2

/-! ### the check -/
structure Sg where
  N : List Str
  gn : Nat → Option Str
  fn : Nat → Option (Str × Nat)
  rn : Nat → Option Str
  xn : Nat → Option Str
  tn : Nat → Option Str
def visB (sc : Scope) (x : Str) : Bool := match sc.names.lookup x with
  | some .local => true
  | some .cell => true
  | some .free => true
  | _ => false
def glB (sc : Scope) (x : Str) : Bool := match sc.names.lookup x with
  | some .globalImplicit => true
  | _ => false
def ndB (x : Str) : Bool := !(x == ("__debug__" : Str)) && !(x == ("__classdict__" : Str))
def nmL (S : Sg) (sc : Scope) (n : Nm) : Bool := decide (S.N[n.i]? = some n.x) && (match sc.names.lookup n.x with
  | some .local => true
  | _ => false)
def nmS (S : Sg) (sc : Scope) (n : Nm) : Bool := decide (S.N[n.i]? = some n.x) && (match sc.names.lookup n.x with
  | some .local => true
  | some .cell => true
  | _ => false)
def Exs.len : Exs → Nat
  | .nil => 0
  | .cons _ r => r.len + 1
/-- a receiver -/
def recv : Ex → Bool
  | .var _ _ _ => true
  | .glb _ _ _ => true
  | .str _ _ _ => true
  | .sub _ _ _ => true
  | .attr _ _ _ => true
  | _ => false
def notE : Lx → Bool
  | .ofE _ => false
  | _ => true
def flat : Ex → Bool
  | .new _ => false
  | _ => true
mutual
def okE (S : Sg) (lm : Bool) (sc : Scope) : Ex → Bool
  | .var i x _ => decide (S.N[i]? = some x) && visB sc x && ndB x
  | .glb j x _ => decide (S.gn j = some x) && glB sc x && ndB x
  | .int _ _ _ => true
  | .bl _ _ _ => true
  | .non _ _ => true
  | .str _ _ _ => true
  | .bin _ a b _ => okE S lm sc a && okE S lm sc b
  | .cmp _ a b _ => okE S lm sc a && okE S lm sc b
  | .isN a _ _ _ => okE S lm sc a
  | .ntN a _ _ _ => okE S lm sc a
  | .not a _ => okE S lm sc a
  | .and es _ => okBs S lm sc es
  | .or es _ => okBs S lm sc es
  | .ifx c a b _ => okT S lm sc c && okE S lm sc a && okE S lm sc b
  | .tup es _ _ => okA S lm sc es
  | .sub a i _ => okE S lm sc a && okE S lm sc i && flat i
  | .slice a lo hi _ _ => okE S lm sc a && okO S lm sc lo && okO S lm sc hi
  | .call f x es _ _ => (match S.fn f with
    | some (y, n) => decide (y = x) && decide (es.len = n)
    | none => false) && decide (0 < es.len) && glB sc x && okA S lm sc es
  | .bi1 b a _ _ => glB sc b.name && okE S lm sc a
  | .biL b l _ _ => glB sc b.name && okL S lm sc l
  | .isi a t _ _ _ => glB sc "isinstance" && glB sc t.name && okE S lm sc a
  | .inS a b _ => okE S lm sc a && okE S lm sc b && flat b
  | .sidx a b p1 p => okE S lm sc a && okE S lm sc b && recv a && (p1.endLine == p.line)
  | .join a l p1 p => okE S lm sc a && okL S lm sc l && recv a && (p1.endLine == p.line)
  | .subL l i _ => okL S lm sc l && okE S lm sc i && flat i
  | .new l => okL S lm sc l && notE l
  | .dct ks es _ => decide (ks.length = es.len) && decide ((ks.map (·.1)) ≠ []) && decide (ks.length ≤ 15) && decide (ks.map (·.1)).Nodup && okA S lm sc es
  | .lenSet a _ _ _ _ => glB sc "len" && glB sc "set" && okE S lm sc a
  | .neL a b _ => okL S lm sc a && okL S lm sc b
  | .refd g x e sc2 _ _ _ => lm && decide (S.rn g = some x) && glB sc x && LamX.lamSB sc sc2 && okE S false sc2 e
  | .attr a _ _ => okE S lm sc a && recv a
  | .meth a _ es p1 p => okE S lm sc a && recv a && okA S lm sc es && decide (es.len < 25) && (p1.endLine == p.line)
  | .make c es _ _ => glB sc c && okA S lm sc es
  | .dct0 _ => true
  | .dcp a _ _ => glB sc "dict" && okE S lm sc a
  | .dget a k d p1 p => okE S lm sc a && okE S lm sc k && okE S lm sc d && recv a && (p1.endLine == p.line)
  | .dpop a k d p1 p => okE S lm sc a && okE S lm sc k && okE S lm sc d && recv a && (p1.endLine == p.line)
  | .chain _ _ a b c _ => okE S lm sc a && okE S lm sc b && okE S lm sc c
  | .tupE a _ _ => glB sc "tuple" && okE S lm sc a
  | .min2 a b _ _ => glB sc "min" && okE S lm sc a && okE S lm sc b
def okT (S : Sg) (lm : Bool) (sc : Scope) : Ex → Bool
  | .cmp _ a b _ => okE S lm sc a && okE S lm sc b
  | .isN a _ _ _ => okE S lm sc a
  | .ntN a _ _ _ => okE S lm sc a
  | .not a _ => okT S lm sc a
  | .and es _ => okTs S lm sc es
  | .or es _ => okTs S lm sc es
  | .var i x p => decide (S.N[i]? = some x) && visB sc x && ndB x
  | .bl _ _ _ => true
  | .sub a i _ => okE S lm sc a && okE S lm sc i && flat i
  | .call f x es _ _ => (match S.fn f with
    | some (y, n) => decide (y = x) && decide (es.len = n)
    | none => false) && decide (0 < es.len) && glB sc x && okA S lm sc es
  | .biL b l _ _ => glB sc b.name && okL S lm sc l
  | .isi a t _ _ _ => glB sc "isinstance" && glB sc t.name && okE S lm sc a
  | .refd g x e sc2 _ _ _ => lm && decide (S.rn g = some x) && glB sc x && LamX.lamSB sc sc2 && okE S false sc2 e
  | .inS a b _ => okE S lm sc a && okE S lm sc b && flat b
  | .neL a b _ => okL S lm sc a && okL S lm sc b
  | .chain _ _ a b c _ => okE S lm sc a && okE S lm sc b && okE S lm sc c
  | _ => false
def okA (S : Sg) (lm : Bool) (sc : Scope) : Exs → Bool
  | .nil => true
  | .cons e r => okE S lm sc e && okA S lm sc r
def okBs (S : Sg) (lm : Bool) (sc : Scope) : Exs → Bool
  | .nil => false
  | .cons e .nil => okE S lm sc e
  | .cons e r => okE S lm sc e && okBs S lm sc r
def okTs (S : Sg) (lm : Bool) (sc : Scope) : Exs → Bool
  | .nil => false
  | .cons e .nil => okT S lm sc e
  | .cons e r => okT S lm sc e && okTs S lm sc r
def okO (S : Sg) (lm : Bool) (sc : Scope) : Ox → Bool
  | .none => true
  | .some e => okE S lm sc e
def okOT (S : Sg) (lm : Bool) (sc : Scope) : Ox → Bool
  | .none => true
  | .some e => okT S lm sc e
def okL (S : Sg) (lm : Bool) (sc : Scope) : Lx → Bool
  | .ofE e => okE S lm sc e && flat e
  | .disp es _ => okA S lm sc es
  | .cat a b _ => okL S lm sc a && okL S lm sc b
  | .listS a _ _ => glB sc "list" && okE S lm sc a
  | .sortS a _ _ => glB sc "sorted" && okE S lm sc a
  | .listT a _ _ => glB sc "list" && okE S lm sc a
  | .lc e t it c sc2 own _ => okI S lm sc it && blkC S.N sc sc2 own && (t.nms.all fun n => nmL S (relS sc2 sc) n && decide (n.i ∈ own.map (·.2))) && okOT S false (relS sc2 sc) c && okE S false (relS sc2 sc) e
def okI (S : Sg) (lm : Bool) (sc : Scope) : It → Bool
  | .l l => okL S lm sc l
  | .a e => okE S lm sc e && flat e
  | .r1 a _ _ => glB sc "range" && okE S lm sc a
  | .r2 a b _ _ => glB sc "range" && okE S lm sc a && okE S lm sc b
end
/-! ### forms -/
def starOk : Ex → Bool
  | .new l => notE l
  | _ => true
theorem star_ex {e : Ex} (h : starOk e = true) (r : List Expr) (env : Env) : starEach (e.py :: r) env = (false, eval e.py env) :: starEach r env := by
  cases e with
  | new l =>
    cases l with
    | ofE e => cases h
    | _ => rfl
  | _ => rfl
theorem ok_star {S : Sg} {lm : Bool} {sc : Scope} {e : Ex} (h : okE S lm sc e = true) : starOk e = true := by
  cases e with
  | new l =>
    unfold okE at h
    rw [Bool.and_eq_true] at h
    exact h.2
  | _ => rfl
theorem flat_star {e : Ex} (h : flat e = true) : starOk e = true := by
  cases e <;> first | rfl | cases h
theorem star_lx {S : Sg} {lm : Bool} {sc : Scope} {l : Lx} (h : okL S lm sc l = true) (r : List Expr) (env : Env) : starEach (l.py :: r) env = (false, eval l.py env) :: starEach r env := by
  cases l with
  | ofE e =>
    unfold okL at h
    rw [Bool.and_eq_true] at h
    exact star_ex (flat_star h.2) r env
  | _ => rfl
theorem flat_ix {e : Ex} (h : flat e = true) : PlainIx e.py := by
  cases e <;> first | (intro o i; rfl) | cases h
theorem flat_in {e : Ex} (h : flat e = true) : behindInMarks .In e.py = false := by
  cases e <;> first | rfl | cases h
theorem flat_sw {e : Ex} (h : flat e = true) (t : Option Expr) (l : Nat) (env : Env) : swapsWith e.py t l env = pure false := by
  cases e <;> first | rfl | cases h
theorem flat_st {e : Ex} (h : flat e = true) (env : Env) (x : Value) : foldedSetIterable e.py env x = pure x := by
  cases e <;> first | rfl | cases h
theorem recv_base {e : Ex} (h : recv e = true) (a : Str) (env : Env) : attributeBase e.py a env (eval e.py env) = eval e.py env := by
  cases e <;> first | rfl | cases h
theorem evs_len {P : Par} : ∀ (es : Exs) (ρ : Ro) (G G' : Hq) (xs : List E), es.ev P ρ G = .ok xs G' → xs.length = es.len
  | .nil, ρ, G, G', xs, h => by
    unfold Exs.ev sNil at h
    cases h; rfl
  | .cons e r, ρ, G, G', xs, h => by
    unfold Exs.ev sCons at h
    cases q1 : e.ev P ρ G with
    | bad => rw [q1] at h; cases h
    | ex c G1 => rw [q1] at h; cases h
    | ok x G1 =>
      rw [q1] at h
      simp only [R.bind_ok] at h
      cases q2 : r.ev P ρ G1 with
      | bad => rw [q2] at h; cases h
      | ex c G2 => rw [q2] at h; cases h
      | ok ys G2 =>
        rw [q2] at h
        cases h
        rw [List.length_cons, evs_len r ρ G1 _ ys q2]
        rfl
theorem pys_len : ∀ es : Exs, es.py.length = es.len
  | .nil => rfl
  | .cons e r => by
    show (e.py :: r.py).length = _
    rw [List.length_cons, pys_len r]; rfl
/-! ### the context -/
def bltN : List Str := ["len", "abs", "int", "tuple", "all", "isinstance", "str", "range", "set", "list", "sorted", "any", "sum", "dict", "min"]
/-- what is known of a def that tries what it is given -/
def RefF (K : PySem.W.Frag) (mg : Str → Option Value) (q : Wq) (rf : Nat → Nat → Bool) (g : Nat) (x : Str) : Prop :=
  ∃ (a e : Str) (pg : Arguments) (sg : Scope) (gA CS : Addr) (fd : FuncData) (Ng : List Str) (j j2 : Nat) (p1 p2 p3 p4 p5 p6 p7 p8 p9 p10 : Pos),
    FunD K x x pg [.Try [.Expr (.Call (.Name a p1) [] [] p2) p3] [.ExceptHandler (some (.Name e p4)) none [.Return (some (.Constant (.bool true) j p5)) p6] p7] [] [] p8, .Return (some (.Constant (.bool false) j2 p9)) p10] sg [] [] gA fd ∧
    L2.Binds K fd [a] [] ∧ mg x = some (.ref gA) ∧ FnScope Ng [a] sg ∧ Ng[0]? = some a ∧ Vis sg a ∧ sg.names.lookup e = some .globalImplicit ∧ mg e = some (.ref CS) ∧ (e == ("__debug__" : Str)) = false ∧
    (∀ f : Addr, (L2.start Ng [V.ref f])[0]? = some (some (V.ref f))) ∧ (∀ cc, rf g cc = true → PySem.W.exmOne K (q.xc cc) (.ref CS) = some true) ∧
    (x == ("__debug__" : Str)) = false ∧ (a == ("__debug__" : Str)) = false ∧ (a == ("__classdict__" : Str)) = false
abbrev RefFor (X : Cx) (q : Wq) (P : Par) (g : Nat) (x : Str) : Prop := RefF X.K X.mg q P.rf g x
/-- a def that makes lambdas -/
def LamFor (X : Cx) (q : Wq) (P : Par) (S : Sg) (k : Nat) : Prop := Room (k + 2) X.A ∧ (∃ c Pt, LamX.TabB X.base X.mg c Pt ∧ X.env.code = .ref c ∧ (Pt, X.env.qual ++ "<lambda>") ∈ q.T ∧ ∀ p ∈ q.T, p.1 = Pt → p.2 = X.env.qual ++ "<lambda>") ∧
  ∀ g x, S.rn g = some x → RefFor X q P g x
structure CxF (X : Cx) (q : Wq) (W : WX) (P : Par) (S : Sg) (sc : Scope) (k : Nat) (lm : Bool) : Prop extends CxG X W where
  N : X.N = S.N
  sc : X.env.scope = sc
  rm : Room (k + 1) X.A
  bn : ∀ x ∈ bltN, X.mg x = none
  gv : ∀ j v x, P.gl j = some v → S.gn j = some x → ∃ u v', X.mg x = some u ∧ RelV v' u ∧ ∀ m H, RV X.K m H v v'
  fv : ∀ f x n, S.fn f = some (x, n) → ∃ a fd ps, X.mg x = some (.ref a) ∧ PySem.W.keepIn X.K (.ref a) = true ∧ L2.Binds X.K fd ps [] ∧ ps.length = n ∧ (x == ("__debug__" : Str)) = false ∧ FnOk X.prog X.w X.K X.mg X.base (CX X.prog X.w) k a fd ps (spF X.K q P f n)
  lv : lm = true → LamFor X q P S (k + 1)
  av : AvOk X.K P
  mv : MvOk X q P k
  ci : CiOk X q P k
section
variable {X : Cx} {q : Wq} {W : WX} {P : Par} {S : Sg} {sc : Scope} {k : Nat} {lm : Bool}
theorem visB_of {x : Str} (h : visB sc x = true) : Vis sc x := by
  unfold visB at h
  split at h
  · rename_i e; exact .inl e
  · rename_i e; exact .inr (.inl e)
  · rename_i e; exact .inr (.inr e)
  · cases h
theorem CxF.gl (C : CxF X q W P S sc k lm) {x : Str} (h : glB sc x = true) : Gl X x := by
  unfold glB at h
  split at h
  · rename_i e
    show X.env.scope.names.lookup x = _
    rw [C.sc]; exact e
  · cases h
theorem CxF.blk (C : CxF X q W P S sc k lm) (s : Shared) (H : Hp) (scope : Scope) (C0 : Addr) (cl : List (Str × Addr)) (fp : List Addr) : CxF (blk X s H scope C0 cl fp) q W0 P S (relS scope sc) k false where
  calm := C.calm
  nd := C.nd
  tk := LamX.takes0
  un := C.un
  N := C.N
  sc := by
    show relabel scope X.env = _
    rw [← C.sc]
    rfl
  rm := C.rm
  bn := C.bn
  gv := C.gv
  fv := C.fv
  lv := fun z => nomatch z
  av := C.av
  mv := C.mv
  ci := C.ci
theorem CxF.lam (C : CxF X q W P S sc k lm) (A : Around) (outer : List Env) (s : Shared) (H : Hp) (E : XK) (scope : Scope) (f c' : Addr) (hr : Room (k + 1) (A.deeper (LamX.lamEnv X scope s.heap.objs.size f c'))) : CxF (LamX.lamCx X A outer s H E scope f c') q (fun cls d _ H' => E cls d H') P S scope k false where
  calm := rfl
  nd := C.nd
  tk := takes_of rfl rfl rfl rfl
  un := by have := hr.un; show (A.deeper _).units + 100 < cLine; omega
  N := C.N
  sc := rfl
  rm := hr
  bn := C.bn
  gv := C.gv
  fv := C.fv
  lv := fun z => nomatch z
  av := C.av
  mv := C.mv
  ci := C.ci
theorem nmL_ok (C : CxF X q W P S sc k lm) {n : Nm} (h : nmL S sc n = true) : NmOk X n := by
  unfold nmL at h
  rw [Bool.and_eq_true, decide_eq_true_eq] at h
  obtain ⟨h1, h2⟩ := h
  have h3 : X.env.scope.names.lookup n.x = some .local := by
    rw [C.sc]
    split at h2
    · assumption
    · cases h2
  exact ⟨by rw [C.N]; exact h1, .inl h3, .inr h3⟩
end
end Lt
end
section
set_option Elab.async false
set_option linter.all false
set_option maxRecDepth 100000
/-! Lt: soundness of list(text), sorted(text), len(set(text)), lists that are compared. -/
namespace Lt
open PySem PySem.Spec PyProof.Rows L2
section
variable {X : Cx} {q : Wq} {W : WX}
theorem neL_op {xs ys : List E} {b : Bool} {m : Mp} {H : Hp} {a a' : Addr} {vs ws : List V} {Q : VK} (hu : X.A.units + 100 < cLine) (h : neLE xs ys = some b) (s1 : SqL X.K H a vs) (r1 : RVs X.K m H xs vs) (s2 : SqL X.K H a' ws) (r2 : RVs X.K m H ys ws) (k : Q (.bl b) H) :
    wOp X (compareOp .NotEq) (.ref a) (.ref a') H Q := by
  unfold neLE at h
  cases qx : E.dats xs with
  | none => rw [qx] at h; cases h
  | some d =>
    cases qy : E.dats ys with
    | none => rw [qx, qy] at h; cases h
    | some e =>
      rw [qx, qy] at h
      simp only at h
      split at h
      · rename_i hd
        cases h
        have hm : X.A.units + min (PyData.depth (.list d)) (PyData.depth (.list e)) < cLine := by
          have h1 : min (PyData.depth (.list d)) (PyData.depth (.list e)) ≤ PyData.depth (.list d) := Nat.min_le_left _ _
          have h2 : min (PyData.depth (.list d)) (PyData.depth (.list e)) ≤ PyData.depth (.list e) := Nat.min_le_right _ _
          omega
        have p1 : PyData.plain (.list d) = true := by unfold PyData.plain; exact E.dats_plain qx
        have p2 : PyData.plain (.list e) = true := by unfold PyData.plain; exact E.dats_plain qy
        refine ⟨fun u v H' Q => u = .ref a ∧ v = .ref a' ∧ H' = H ∧ Q (.bl (!(PyData.eqv (.list d) (.list e)))) H, fun pins s σ H' u v uu vv Q I ru rv h => ?_, rfl, rfl, rfl, k⟩
        obtain ⟨rfl, rfl, rfl, q⟩ := h
        obtain ⟨as, g1⟩ := Dp.reads I (.list d) _ uu (.lst s1 (r1.dp qx)) ru
        obtain ⟨bs, g2⟩ := Dp.reads I (.list e) _ vv (.lst s2 (r2.dp qy)) rv
        exact SeqAt.ne_plain g1 g2 p1 p2 hm ⟨.bl _, _, I, rfl, q⟩
      · cases h
theorem st_neL {sa sb : Sx LH} {a b : Expr} {p : Pos} (hu : X.A.units + 100 < cLine) (ha : SL X q W sa a) (hb : SL X q W sb b) : ST X q W (sNeL sa sb) (.Compare a [.NotEq] [b] p) := by
  intro ρ G σ H m Q ME M F
  refine ⟨_, pt_cmpR op_w pe_w pe_w (nomark b), ?_⟩
  refine ha ρ G σ H m _ ME M (F.bind fun x G1 m1 x' H1 _ e1 M1 r1 F1 => ?_)
  refine hb ρ G1 σ H1 m1 _ (ME.ext e1) M1 (F1.bind fun y G2 m2 y' H2 _ e2 M2 r2 F2 => ?_)
  cases qx : x.get G2 with
  | none => rw [qx] at F2; exact F2.elim
  | some xs =>
    cases qy : y.get G2 with
    | none => rw [qx, qy] at F2; exact F2.elim
    | some ys =>
      rw [qx, qy] at F2
      obtain ⟨b, hb, F2⟩ := optR_fin F2
      obtain ⟨a1, vs, rfl, s1, q1⟩ := RL.get (RL.ext r1.1 e2) M2 qx
      obtain ⟨a2, ws, rfl, s2, q2⟩ := RL.get r2.1 M2 qy
      exact neL_op hu hb s1 q1 s2 q2 ⟨b, rfl, Fin.here F2 M2 rfl⟩
theorem s_neL {sa sb : Sx LH} {a b : Expr} {p : Pos} (hu : X.A.units + 100 < cLine) (ha : SL X q W sa a) (hb : SL X q W sb b) : SE X q W (sBl (sNeL sa sb)) (.Compare a [.NotEq] [b] p) := by
  intro ρ G σ H m Q ME M F
  refine ⟨_, pe_cmpR op_w pe_w pe_w (nomark b), ?_⟩
  unfold sBl sNeL at F
  rw [R.bind_assoc] at F
  refine ha ρ G σ H m _ ME M (F.bind fun x G1 m1 x' H1 _ e1 M1 r1 F1 => ?_)
  rw [R.bind_assoc] at F1
  refine hb ρ G1 σ H1 m1 _ (ME.ext e1) M1 (F1.bind fun y G2 m2 y' H2 _ e2 M2 r2 F2 => ?_)
  cases qx : x.get G2 with
  | none => rw [qx] at F2; exact F2.elim
  | some xs =>
    cases qy : y.get G2 with
    | none => rw [qx, qy] at F2; exact F2.elim
    | some ys =>
      rw [qx, qy] at F2
      simp only [optR_some, R.bind_ok] at F2
      cases hz : neLE xs ys with
      | none => rw [hz] at F2; exact F2.elim
      | some b =>
        rw [hz] at F2
        obtain ⟨a1, vs, rfl, s1, q1⟩ := RL.get (RL.ext r1.1 e2) M2 qx
        obtain ⟨a2, ws, rfl, s2, q2⟩ := RL.get r2.1 M2 qy
        exact neL_op hu hz s1 q1 s2 q2 (Fin.here F2 M2 (.bl b))
/-! ### the signs of a text, as a list -/
theorem vals_signs {z : Str} {acc : Array Value} (h : PySem.ItemsOf (PySem.SignAt z) acc z.cps.size) : Vals (z.cps.toList.map fun c => V.str ⟨#[c]⟩) acc.toList := by
  obtain ⟨h1, h2⟩ := h
  have key : ∀ (l : List Nat) (vs : List Value), vs.length = l.length → (∀ (j : Nat) (v : Value), vs[j]? = some v → ∃ (c : Nat) (u : Tok), l[j]? = some c ∧ v = Value.str ⟨#[c]⟩ u) → Vals (l.map fun c => V.str ⟨#[c]⟩) vs := by
    intro l
    induction l with
    | nil =>
      intro vs hl _
      have : vs = [] := List.eq_nil_of_length_eq_zero hl
      subst this
      exact .nil
    | cons c l ih =>
      intro vs hl hv
      cases vs with
      | nil => cases hl
      | cons v vs =>
        obtain ⟨c', u, e1, rfl⟩ := hv 0 v rfl
        cases e1
        exact .cons ⟨u, rfl⟩ (ih vs (by simpa using hl) fun j v h => by
          obtain ⟨c, u, e1, e2⟩ := hv (j + 1) v (by simpa using h)
          exact ⟨c, u, by simpa using e1, e2⟩)
  refine key _ _ (by simp [h1]) fun j v hj => ?_
  obtain ⟨c, u, e1, e2⟩ := h2 j v (by simpa using hj)
  exact ⟨c, u, by simpa using e1, e2⟩
def vsigns (z : Str) : List V := z.cps.toList.map fun c => V.str ⟨#[c]⟩
theorem rv_vsigns {K : PySem.W.Frag} {m : Mp} {H : Hp} (z : Str) : RVs K m H (signs z) (vsigns z) := rv_signs _
theorem len_cps (z : Str) : z.cps.size = z.length := rfl
theorem cr_listS (hc : X.calm = true) : CallR X (.type "list") (fun xs H Q => ∃ z : Str, xs = [.str z] ∧ z.length ≤ 4000 ∧ ∀ p, H p = none → Q (.ref p) (upd H p (.lst (vsigns z)))) := by
  intro pins s σ H xs us Q I r h
  obtain ⟨z, rfl, hz, q⟩ := h
  cases r with
  | cons r1 r2 =>
    cases r2
    obtain ⟨t, rfl⟩ := r1
    have hl : sizeLine = 16777216 := sizeLine_eq
    refine PySem.call_list_str (I.ok.hd hc) z t (fun h' tk acc' c' kp hg hit => ?_) (by rw [len_cps]; omega)
    refine ⟨.ref s.heap.objs.size, _, I.laid (t' := tk) (o := .lst (vsigns z)) kp (Nat.le_refl _) ⟨?_, acc'.toList, c', vals_signs hit, by simpa using hg⟩, rfl, q _ (I.hok.fresh (Nat.le_refl _))⟩
    rw [vsigns, List.length_map, Array.length_toList, len_cps]
    omega
theorem rises_pw : ∀ {l : List Nat}, risesB l = true → l.Pairwise (· ≤ ·)
  | [], _ => .nil
  | [x], _ => List.pairwise_singleton _ _
  | x :: y :: r, h => by
    unfold risesB at h
    rw [Bool.and_eq_true, decide_eq_true_eq] at h
    have ih := rises_pw h.2
    refine .cons (fun z hz => ?_) ih
    rcases List.mem_cons.mp hz with e | hz
    · rw [e]; exact h.1
    · exact Nat.le_trans h.1 ((List.pairwise_cons.mp ih).1 z hz)
theorem cr_sortS (hc : X.calm = true) (hu : X.A.units + 100 < cLine) : CallR X (.builtin "sorted") (fun xs H Q => ∃ z : Str, xs = [.str z] ∧ z.length ≤ 4000 ∧ risesB z.cps.toList = true ∧ ∀ p, H p = none → Q (.ref p) (upd H p (.lst (vsigns z)))) := by
  intro pins s σ H xs us Q I r h
  obtain ⟨z, rfl, hz, hr, q⟩ := h
  cases r with
  | cons r1 r2 =>
    cases r2
    obtain ⟨t, rfl⟩ := r1
    have hl : sizeLine = 16777216 := sizeLine_eq
    refine Calls.call_function_entry kind_sorted plain_sorted entry_sorted (args_sorted1 _) ?_
    unfold Builtin.«sorted»
    refine wpAny_bind (m := checkCount "sorted" 1 1 _) (wpAny_pure ?_)
    refine wpAny_bind (PySem.wpAny_collect_str (A := X.A.in1) (show X.A.in1.handled = none from I.ok.hd hc) z t (fun s' acc kp hg hd ho hit => ?_) (by rw [len_cps]; omega))
    obtain ⟨h', g', d', tk', os'⟩ := s'
    simp only at kp hg hd ho
    subst hg hd ho
    have hacc : acc.toList.length ≤ sizeLine := by rw [Array.length_toList, hit.1, len_cps]; omega
    refine wpAny_bind (wpAny_newList ?_ hacc)
    have I1 : Inv X pins σ H { s with heap := h'.push { cls := .type "list", data := .seq acc.toList.toArray }, toks := tk' } := I.kept fun b o e => Heap.get?_push_of_some _ (kp b o e)
    have I0 : Inv X pins σ H { s with heap := h', toks := tk' } := I.kept kp
    have vs := vals_signs hit
    have each : ∀ (l : List Nat) (us : List Value), Vals (l.map fun c => V.str ⟨#[c]⟩) us → PySem.W.EachIs (fun v (b : Str) => ∃ t, v = Value.str b t) us (l.map fun c => (⟨#[c]⟩ : Str)) := by
      intro l
      induction l with
      | nil => intro us h; cases h; exact .nil
      | cons c l ih =>
        intro us h
        cases h with
        | cons r rr => exact .cons r (ih _ rr)
    have e1 := each _ _ vs
    have er : PySem.W.EachIs (fun v (b : Str) => ∃ as, Reads (h'.push { cls := .type "list", data := .seq acc.toList.toArray }) v (PyData.str b) as ∧ h'.objs.size ∉ as) acc.toList (z.cps.toList.map fun c => (⟨#[c]⟩ : Str)) := e1.mono fun v b ⟨t, e⟩ => ⟨[], by subst e; exact Reads.str _ _, by simp⟩
    have hal : PySem.W.AllAlike ((z.cps.toList.map fun c => (⟨#[c]⟩ : Str)).map fun b => PyData.str b) := fun d hd d' hd' => by
      obtain ⟨b, _, rfl⟩ := List.mem_map.mp hd
      obtain ⟨b', _, rfl⟩ := List.mem_map.mp hd'
      rfl
    have hk : PySem.W.Sortable ((z.cps.toList.map fun c => (⟨#[c]⟩ : Str)).map fun b => PyData.str b) := .inr fun d hd => by
      obtain ⟨b, _, rfl⟩ := List.mem_map.mp hd
      exact ⟨(fun z => nomatch z), (fun _ z => nomatch z)⟩
    refine wpAny_bind (wpAny_holding (PySem.W.list_sort_data (n := 0) (R := fun v b => ∃ t, v = Value.str b t) (Heap.get?_push_size _ rfl) e1 er hal hk (by rw [List.length_map, Array.length_toList, len_cps]; omega) (fun b _ => ?_) fun out hlen hout => ?_))
    · show X.A.units + 1 + 1 + 0 < cLine
      omega
    · refine wpAny_pure ⟨_, rfl, ?_⟩
      have hs : ((z.cps.toList.map fun c => (⟨#[c]⟩ : Str)).mergeSort (PySem.W.dataLe false fun b => PyData.str b)) = z.cps.toList.map fun c => (⟨#[c]⟩ : Str) := by
        refine List.mergeSort_of_pairwise ?_
        rw [PySem.W.dataLe_str]
        refine List.Pairwise.map _ (fun a b hab => ?_) (rises_pw hr)
        show decide ([a] ≤ [b]) = true
        rw [decide_eq_true_eq]
        by_cases e : a = b
        · subst e; exact List.le_refl _
        · exact List.le_of_lt (List.cons_lt_cons_iff.mpr (.inl (by omega)))
      rw [hs] at hout
      have back : ∀ (l : List Nat) (us : List Value), PySem.W.EachIs (fun v (b : Str) => ∃ t, v = Value.str b t) us (l.map fun c => (⟨#[c]⟩ : Str)) → Vals (l.map fun c => V.str ⟨#[c]⟩) us := by
        intro l
        induction l with
        | nil => intro us h; cases h; exact .nil
        | cons c l ih =>
          intro us h
          cases h with
          | cons r rr => exact .cons r (ih _ rr)
      have vo := back _ _ hout
      have hob : (h'.push { cls := .type "list", data := .seq acc.toList.toArray }).get? h'.objs.size = some (seqObj "list" acc.toList.toArray 0) := Heap.get?_push_size _ rfl
      obtain ⟨eF, heF⟩ := PyProof.Rows.sortedHeap_at (vs := acc.toList) (out := out.toArray) hob
      have kS : ∀ b o, s.heap.get? b = some o → (sortedHeap (h'.push { cls := .type "list", data := .seq acc.toList.toArray }) h'.objs.size acc.toList out.toArray).get? b = some o := fun b o e =>
        (PyProof.Rows.sortedHeap_old (fun z => absurd (Heap.lt_size (kp b o e)) (by rw [z]; exact Nat.lt_irrefl _)) (Heap.lt_size (Heap.get?_push_of_some _ (kp b o e)))).trans (Heap.get?_push_of_some _ (kp b o e))
      have hn0 : H h'.objs.size = none := I0.hok.fresh (Nat.le_refl _)
      have I2 : Inv X pins σ H { s with heap := sortedHeap (h'.push { cls := .type "list", data := .seq acc.toList.toArray }) h'.objs.size acc.toList out.toArray, toks := tk' } := I.kept (t' := tk') kS
      have I3 : Inv X pins σ (upd H h'.objs.size (.lst (vsigns z))) { s with heap := sortedHeap (h'.push { cls := .type "list", data := .seq acc.toList.toArray }) h'.objs.size acc.toList out.toArray, toks := tk' } :=
        I2.take (h' := sortedHeap (h'.push { cls := .type "list", data := .seq acc.toList.toArray }) h'.objs.size acc.toList out.toArray) (t' := tk') (fun b ob _ e => e) (I0.fpOk (Nat.le_refl _) hn0) ⟨by rw [vsigns, List.length_map, Array.length_toList, len_cps]; omega, out, eF, vo, heF⟩
      exact ⟨.ref h'.objs.size, _, I3, rfl, q _ hn0⟩
theorem l_listS {s : Sx E} {a : Expr} {p1 p : Pos} (C : CxG X W) (hg : Gl X "list") (hm : X.mg "list" = none) (hs : starEach [a] X.env = [(false, eval a X.env)]) (ha : SE X q W s a) : SL X q W (sListS s) (.Call (.Name "list" p1) [a] [] p) := by
  intro ρ G σ H m Q ME M F
  refine ⟨_, pe_callTy (T := "list") (cr_listS C.calm) hg hm rfl (pa_cons pe_w pa_nil hs) (he := hs), ?_⟩
  refine ha ρ G σ H m _ ME M (F.bind fun x G1 m1 x' H1 _ e1 M1 r1 F1 => ?_)
  cases r1 with
  | str z =>
    simp only at F1
    split at F1
    · rename_i hz
      exact ⟨z, rfl, hz, fun p hp => fin_tmp M1 F1 (rv_vsigns z) hp (e1.there _)⟩
    · exact F1.elim
  | _ => exact F1.elim
theorem l_sortS {s : Sx E} {a : Expr} {p1 p : Pos} (C : CxG X W) (hg : Gl X "sorted") (hm : X.mg "sorted" = none) (hs : starEach [a] X.env = [(false, eval a X.env)]) (ha : SE X q W s a) : SL X q W (sSortS s) (.Call (.Name "sorted" p1) [a] [] p) := by
  intro ρ G σ H m Q ME M F
  refine ⟨_, pe_callB (id := "sorted") call_w hg hm rfl (pa_cons pe_w pa_nil hs) (he := hs), ?_⟩
  refine ha ρ G σ H m _ ME M (F.bind fun x G1 m1 x' H1 _ e1 M1 r1 F1 => ?_)
  cases r1 with
  | str z =>
    simp only at F1
    split at F1
    · rename_i hz
      exact ⟨_, cr_sortS C.calm C.un, z, rfl, hz.1, hz.2, fun p hp => fin_tmp M1 F1 (rv_vsigns z) hp (e1.there _)⟩
    · exact F1.elim
  | @ref n b hn =>
    simp only at F1
    cases e : G1[n]? with
    | none => rw [e] at F1; exact F1.elim
    | some o =>
      rw [e] at F1
      have ob := M1.obj n o b e hn
      cases o with
      | dct kvs =>
        simp only at F1
        split at F1
        · rename_i hl
          obtain ⟨vs, h1, rs⟩ := ob
          refine ⟨_, call_sortedD C.calm, b, vs, kvs.map (·.1), rfl, .inl h1, rs.keys, by rw [List.length_map]; exact hl, fun ys p hp hso hpn => ?_⟩
          rw [keys_eq hp hso]
          exact fin_tmp M1 F1 (rv_strs _) hpn (e1.there _)
        · exact F1.elim
      | _ => exact F1.elim
  | _ => exact F1.elim
/-! ### len(set(text)) of a text whose signs are all other ones -/
def chars (z : Str) : List Str := z.cps.toList.map fun c => (⟨#[c]⟩ : Str)
section
variable {prog : Program} {w : World} {A : Around} {R : Result → Shared → Prop} {I : Addr} {fp wr : List Addr} {Gn : Array GenState → Array GenState → Prop} {n : Nat} {P : Nat → Value → Prop} {St : Nat → Shared → Prop}
theorem loopSet (Wk : WalksS prog w A.in1 I fp wr Gn n P St) (S : Addr) (hSf : S ∉ fp) (xs : List Str) (hsz : xs.length = n) (hn1 : n < 4090) (hnd : xs.Nodup)
    (hval : ∀ i v, P i v → ∃ t, v = .str (xs.getD i Str.empty) t) :
    ∀ (k i : Nat) (s : Shared), n - i = k → i ≤ n → St i s →
      s.heap.SetOf (PySem.strKind prog w) S (fun k' => (xs.take i).any (· == k')) i →
      (∀ s', Moved (S :: wr) Gn s s' → s'.heap.SetOf (PySem.strKind prog w) S (fun k' => (xs.take n).any (· == k')) n → R (.ok (.ret .none)) s') →
      codeAny (model prog w) A (.builtin "set.update.loop" ⟨[.ref S, .ref I], []⟩) R s := by
  have hSw : S ∉ wr := fun h => hSf (Wk.sub _ h)
  have hsub : ∀ b ∈ wr, b ∈ S :: wr := fun b hb => List.mem_cons_of_mem _ hb
  intro k
  induction k with
  | zero =>
    intro i s hk hi hst hS hR
    have hin : i = n := by omega
    subst hin
    refine codeAny_builtin PyProof.Rows.F.entry_set_update_loop ?_
    rw [Around.under_plainId PyProof.Rows.F.plain_set_update_loop _]
    show wpAny _ A.in1 (pyNext (.ref I) >>= _) _ _ s
    refine wpAny_bind (Wk.done s _ _ hst fun s' hm => ?_)
    show wpAny _ A.in1 (ret Value.none) _ _ s'
    exact wpAny_pure (hR s' (hm.mono hsub) (by
      obtain ⟨o, es, ep, t, ho, rest⟩ := hS
      exact ⟨o, es, ep, t, hm.heap S _ hSw ho, rest⟩))
  | succ k ih =>
    intro i s hk hi hst hS hR
    have hlt : i < n := by omega
    refine codeAny_builtin PyProof.Rows.F.entry_set_update_loop ?_
    rw [Around.under_plainId PyProof.Rows.F.plain_set_update_loop _]
    show wpAny _ A.in1 (pyNext (.ref I) >>= _) _ _ s
    refine wpAny_bind (Wk.item i s _ _ hlt hst fun v s' hP hst' hm => ?_)
    obtain ⟨t, rfl⟩ := hval i v hP
    have hS' : s'.heap.SetOf (PySem.strKind prog w) S (fun k' => (xs.take i).any (· == k')) i := by
      obtain ⟨o, es, ep, tb, ho, rest⟩ := hS
      exact ⟨o, es, ep, tb, hm.heap S _ hSw ho, rest⟩
    show wpAny _ A.in1 (holding [Value.str (xs.getD i Str.empty) t] (setAdd S (.str (xs.getD i Str.empty) t)) >>= _) _ _ s'
    refine wpAny_bind (wpAny_holding ?_)
    unfold setAdd
    refine wpAny_holding ?_
    refine wpAny_bind ((PySem.strKind prog w).pyHash (k := xs.getD i Str.empty) (strKind_is _ _ _ _) ?_)
    refine wpAny_setAddHashed_of (knd := PySem.strKind prog w) (s := { s' with toks := s'.toks + 1 }) (strKind_is _ _ _ _) rfl hS' (by unfold scanBound; omega) fun h' hsb hS2 => ?_
    have hi2 : i < xs.length := by omega
    have hx : xs.getD i Str.empty = xs[i] := by rw [List.getD_eq_getElem?_getD, List.getElem?_eq_getElem hi2]; rfl
    have hnew : ((xs.take i).any (· == xs.getD i Str.empty)) = false := by
      rw [List.any_eq_false]
      intro y hy e
      have e2 : y = xs[i] := by rw [← hx]; simpa using e
      obtain ⟨j, hj, e3⟩ := List.mem_iff_getElem.mp hy
      rw [List.length_take] at hj
      rw [List.getElem_take, e2] at e3
      exact List.pairwise_iff_getElem.mp hnd j i (by omega) hi2 (by omega) e3
    have hSi : h'.SetOf (PySem.strKind prog w) S (fun k' => (xs.take (i + 1)).any (· == k')) (i + 1) := by
      refine SetOf_congr hS2 (fun k' => ?_) (by rw [hnew]; rfl)
      rw [List.take_succ_eq_append_getElem hi2, List.any_append, hx]
      congr 1
      show decide (k' = xs[i]) = ((xs[i] == k') || false)
      rw [Bool.or_false]
      by_cases e : k' = xs[i]
      · subst e; simp
      · have hb : (xs[i] == k') = false := beq_eq_false_iff_ne.mpr fun h => e h.symm
        rw [hb, decide_eq_false e]
    refine wpAny_pure ⟨plainId_quiet PyProof.Rows.F.plain_set_update_loop _, ih (i + 1) _ (by omega) hlt (Wk.frame _ s' _ _ hst' (Nat.le_succ _) fun b hb o e => ?_) hSi fun s'' hm'' hS'' => ?_⟩
    · rw [hsb.2 b (fun h : b = S => hSf (by rw [← h]; exact hb))]; exact e
    · refine hR s'' (Moved.trans Wk.gtrans ((hm.mono hsub).then_heap (Nat.le_succ _) fun b o hb e => ?_) hm'') hS''
      rw [hsb.2 b (fun h : b = S => hb (by rw [h]; exact List.mem_cons_self))]; exact e
end
section
variable {prog : Program} {w : World} {A : Around} {E : Value → Shared → Prop} {s : Shared}
set_option maxHeartbeats 3200000 in
theorem call_set_str {z : Str} {t : Tok} {Q : Value → Shared → Prop} (hh : A.handled = none) (hz : z.length < 4000) (hnd : (chars z).Nodup)
    (h : ∀ (h' : Heap) (tk : Nat), h'.SetOf (PySem.strKind prog w) s.heap.objs.size (fun k' => ((chars z).take z.cps.size).any (· == k')) z.cps.size →
      (∀ b o, b < s.heap.objs.size → s.heap.get? b = some o → h'.get? b = some o) → Q (.ref s.heap.objs.size) { s with heap := h', toks := tk }) :
    wpAny (model prog w) A (call (.type "set") [.str z t]) Q E s := by
  obtain ⟨c, tl, hmro⟩ := PySem.F.called_set.mro
  have hmade := PySem.F.called_set.made
  have hsub := PySem.F.called_set.sub
  refine wpAny_call (codeAny_of_tree ?_)
  show wpAny _ _ (callAny (.type "set") _) _ _ _
  refine wpAny_pure ⟨Code.quiet_builtin _ (by decide +kernel), codeAny_builtin PySem.F.entry_type_call ?_⟩
  rw [Around.under_plain (weight_type_call_type "set" [.str z t] []) rfl]
  have h1 := PySem.F.called_set.notType
  have h2 := PySem.F.called_set.canCreate
  have hct := PySem.F.typeCall_set_1 (.str z t)
  repeat (any_goals (first | assumption | wp_step))

  refine codeAny_mono (code_set_new_1 (.str z t) (E := E) (Q₁ := fun obj s₁ => ∃ led : Bool, obj = .ref s.heap.objs.size ∧ s₁ = { s with heap := s.heap.push { cls := .type "set", dict := none, data := .set #[] 0 (.fresh 0 0 led) } }) fun led => ⟨led, rfl, rfl⟩) fun r s₁ hr => ?_
  cases r with
  | error e => exact hr
  | ok fl =>
    cases fl with
    | ret obj =>
      obtain ⟨led, rfl, rfl⟩ := hr
      have hS : (s.heap.push { cls := .type "set", dict := none, data := .set #[] 0 (.fresh 0 0 led) }).get? s.heap.objs.size = some { cls := .type "set", dict := none, data := .set #[] 0 (.fresh 0 0 led) } := Heap.get?_push_size _ rfl
      have hT : Shared.TypeIs { s with heap := s.heap.push { cls := .type "set", dict := none, data := .set #[] 0 (.fresh 0 0 led) } } (.ref s.heap.objs.size) "set" := ⟨_, hS, rfl⟩
      have hli := PySem.F.called_set.init.lookup
      have hbi := PySem.F.called_set.init.bind (.ref s.heap.objs.size)
      repeat (any_goals (first | assumption | wp_step))

      refine codeAny_mono (codeAny_call_builtin (R := wants (fun r s₂ => r = .none ∧ ∃ h' tk, s₂ = { s with heap := h', toks := tk } ∧
          h'.SetOf (PySem.strKind prog w) s.heap.objs.size (fun k' => ((chars z).take z.cps.size).any (· == k')) z.cps.size ∧
          (∀ b o, b < s.heap.objs.size → s.heap.get? b = some o → h'.get? b = some o)) E) PySem.F.called_set.init.plain PySem.F.entry_set_init (check_set_init_1 hT ?_)) fun r₂ s₂ hr₂ => ?_
      · have hsls := PySem.F.sub_str_set
        have hslf := PySem.F.sub_str_frozenset
        have hne : (Value.type "str" == Value.type "dict") = false := by decide
        unfold Builtin.«set.__init__» noKeywords Builtin.Frozenset.updateFrom
        generalize hPI : pyIter = PI
        wp_walk
        subst hPI

        refine PySem.wpAny_pyIter_str fun o St Wk hst => ?_
        refine wpAny_bind (wpAny_runValue ?_)
        have hh3 : A.in1.in1.in1.handled = none := by simp [hh]
        have hSf : s.heap.objs.size ∉ [(s.heap.push { cls := .type "set", dict := none, data := .set #[] 0 (.fresh 0 0 led) }).objs.size] := by
          rw [Heap.size_push]; simp only [List.mem_cons, List.mem_singleton, List.not_mem_nil, or_false]
          exact Nat.ne_of_lt (Nat.lt_succ_self _)
        have hval : ∀ (i : Nat) (v : Value), PySem.SignAt z i v → ∃ t, v = .str ((chars z).getD i Str.empty) t := fun i v ⟨c, u, e1, e2⟩ => by
          refine ⟨u, ?_⟩
          rw [e2, List.getD_eq_getElem?_getD, chars, List.getElem?_map, Array.getElem?_toList, e1]
          rfl
        refine loopSet ((Wk _ hh3).toS) s.heap.objs.size
          hSf (chars z) (by simp [chars]) (by rw [len_cps]; omega) hnd hval (z.cps.size - 0) 0 _ (by omega) (Nat.zero_le _)
          hst ?hS0 ?hR
        case hS0 =>
          have hget : ((s.heap.push { cls := .type "set", dict := none, data := .set #[] 0 (.fresh 0 0 led) }).push o).get? s.heap.objs.size
              = some { cls := .type "set", dict := none, data := .set #[] 0 (.fresh 0 0 led) } := Heap.get?_push_of_some _ hS
          exact PyProof.Rows.SetOf_congr ((PyProof.Rows.setObjOf_fresh (knd := PySem.strKind prog w) led).setOf hget (by unfold scanBound; omega)) (fun _ => rfl) rfl
        case hR =>
          intro s' hm hS'
          obtain ⟨h', g', d', tk', os'⟩ := s'
          have eg : g' = s.gens := hm.gens
          have ed : d' = s.drawn := hm.drawn
          have eo : os' = s.os := hm.os
          subst eg; subst ed; subst eo
          show wpAny _ _ _ _ _ _
          refine wpAny_pure ?_
          show wpAny _ _ (ret Value.none) _ _ _
          refine wpAny_pure ⟨rfl, h', tk', rfl, hS', fun b o' hb e => ?_⟩
          have hb1 : b ≠ s.heap.objs.size := Nat.ne_of_lt hb
          have hb2 : b ≠ (s.heap.push { cls := .type "set", dict := none, data := .set #[] 0 (.fresh 0 0 led) }).objs.size := by
            rw [Heap.size_push]; exact Nat.ne_of_lt (Nat.lt_succ_of_lt hb)
          exact hm.heap b o' (by simp only [List.mem_cons, List.mem_singleton, List.not_mem_nil, or_false, not_or]; exact ⟨hb1, hb2⟩) (Heap.get?_push_of_some _ (Heap.get?_push_of_some _ e))

      · cases r₂ with
        | error e => exact hr₂
        | ok fl₂ =>
          cases fl₂ with
          | ret r =>
            obtain ⟨rfl, h', tk, rfl, hS', hk'⟩ := hr₂
            repeat (any_goals (first | assumption | wp_step))
            exact h _ _ hS' hk'
          | _ => exact hr₂.elim
    | _ => exact hr.elim
end
def tLenStr (ta : TE) : TE := fun σ H Q => ta σ H fun x H1 => ∃ z : Str, x = .str z ∧ z.length < 4000 ∧ (chars z).Nodup ∧ Q (.int z.length) H1
theorem pe_lenStr {a : Expr} {ta : TE} {p p2 q pos : Pos} (hc : X.calm = true) (hg : Gl X "len") (hm : X.mg "len" = none) (hg2 : Gl X "set") (hm2 : X.mg "set" = none) (ha : PE X a ta)
    (na : starEach [a] X.env = (false, eval a X.env) :: starEach [] X.env) : PE X (.Call (.Name "len" p) [.Call (.Name "set" p2) [a] [] q] [] pos) (tLenStr ta) := by
  refine ⟨fun pins s σ H Q I h => ?_⟩
  refine Call_ (ld_blt I hg hm boot_len ?_)
  refine PyProof.Rows.callWith_builtin1 (PyProof.Rows.args_cons ?_ rfl) rfl rfl
  refine Call_ (ld_blt I hg2 hm2 boot_set ?_)
  refine PyProof.Rows.callWith_type1 (PyProof.Rows.args_cons (thn (ha.run pins s σ H _ I h) fun v s1 ⟨x, H1, I1, r1, q1⟩ => PyProof.Rows.args_nil ?_) na) na rfl
  obtain ⟨z, rfl, hz, hnd, q1⟩ := q1
  obtain ⟨t, rfl⟩ := r1
  refine call_set_str (I1.ok.hd hc) hz hnd fun h' tk hS hk => ?_
  refine PyProof.Rows.args_nil ?_
  obtain ⟨o, es, ep, t, ho, hex, hd, _, _, _, hf, hn⟩ := hS
  have I2 : Inv X pins σ H1 { s1 with heap := h', toks := tk } := I1.kept fun b o e => hk b o (Heap.lt_size e) e
  have hl : z.cps.size = z.length := rfl
  refine call_len_set ho hex hd hf (by rw [hn] <;> omega) ⟨.int z.length, H1, I2.tok _, ⟨_, by rw [hn]; rfl⟩, q1⟩
theorem nodupB_of : ∀ {l : List Nat}, nodupB l = true → l.Nodup
  | [], _ => List.nodup_nil
  | x :: r, h => by
    unfold nodupB at h
    rw [Bool.and_eq_true, Bool.not_eq_true'] at h
    refine List.nodup_cons.mpr ⟨fun hx => ?_, nodupB_of h.2⟩
    have := List.any_eq_false.mp h.1 x hx
    exact this (beq_self_eq_true x)
theorem chars_nodup {z : Str} (h : nodupB z.cps.toList = true) : (chars z).Nodup := by
  refine List.Pairwise.map _ (fun a b hab e => hab ?_) (nodupB_of h)
  injection e with e
  injection e with e
  injection e
theorem s_lenSet {s : Sx E} {a : Expr} {p1 p2 p3 p : Pos} (C : CxG X W) (hg : Gl X "len") (hm : X.mg "len" = none) (hg2 : Gl X "set") (hm2 : X.mg "set" = none) (hs : starEach [a] X.env = [(false, eval a X.env)]) (ha : SE X q W s a) :
    SE X q W (sLenSet s) (.Call (.Name "len" p1) [.Call (.Name "set" p2) [a] [] p3] [] p) := by
  intro ρ G σ H m Q ME M F
  refine ⟨_, pe_lenStr C.calm hg hm hg2 hm2 pe_w hs, ?_⟩
  refine ha ρ G σ H m _ ME M (F.bind fun x G1 m1 x' H1 _ e1 M1 r1 F1 => ?_)
  obtain ⟨y, hy, F1⟩ := optR_fin F1
  cases r1 with
  | str z =>
    simp only [lenSetE] at hy
    split at hy
    · rename_i hz
      cases hy
      exact ⟨z, rfl, hz.1, chars_nodup hz.2, Fin.here F1 M1 (.int _)⟩
    · cases hy
  | _ => cases hy
end
end Lt
end
section
set_option Elab.async false
set_option linter.all false
set_option maxRecDepth 100000
set_option maxHeartbeats 1000000
/-! Lt: all that passes the check is sound. -/
namespace Lt
open PySem PySem.Spec PyProof.Rows L2
section
variable {P : Par} {S : Sg} {q : Wq}
theorem bnm {X : Cx} {W : WX} {sc : Scope} {k : Nat} {lm : Bool} (C : CxF X q W P S sc k lm) (b : B1) : X.mg b.name = none := by
  cases b <;> exact C.bn _ (by decide)
theorem bnl {X : Cx} {W : WX} {sc : Scope} {k : Nat} {lm : Bool} (C : CxF X q W P S sc k lm) (b : BL) : X.mg b.name = none := by
  cases b <;> exact C.bn _ (by decide)
theorem bnt {X : Cx} {W : WX} {sc : Scope} {k : Nat} {lm : Bool} (C : CxF X q W P S sc k lm) (b : TyN) : X.mg b.name = none := by
  cases b <;> exact C.bn _ (by decide)
theorem so_var {X : Cx} {W : WX} {sc : Scope} {k : Nat} {lm : Bool} {i : Nat} {x : Str} {p : Pos} (h : (decide (S.N[i]? = some x) && visB sc x && ndB x) = true) (C : CxF X q W P S sc k lm) : SE X q W (sVar i) (.Name x p) := by
  simp only [Bool.and_eq_true, decide_eq_true_eq, ndB, Bool.not_eq_true'] at h
  obtain ⟨⟨h1, h2⟩, h3, h4⟩ := h
  exact s_var (by rw [C.N]; exact h1) (by rw [C.sc]; exact visB_of h2) h3 h4
theorem so_glb {X : Cx} {W : WX} {sc : Scope} {k : Nat} {lm : Bool} {j : Nat} {x : Str} {p : Pos} (h : (decide (S.gn j = some x) && glB sc x && ndB x) = true) (C : CxF X q W P S sc k lm) : SE X q W (sGlb P j) (.Name x p) := by
  simp only [Bool.and_eq_true, decide_eq_true_eq, ndB, Bool.not_eq_true'] at h
  obtain ⟨⟨h1, h2⟩, h3, h4⟩ := h
  intro ρ G σ H m Q ME M F
  obtain ⟨v, hv, F⟩ := optR_fin F
  obtain ⟨u, v', e1, e2, e3⟩ := C.gv j v x hv h1
  exact s_glb (q := q) (W := W) (C.gl h2) e1 e2 h3 e3 ρ G σ H m Q ME M F
/-- no star among the arguments -/
theorem plain_args {lm : Bool} {sc : Scope} : ∀ {es : Exs} (h : okA S lm sc es = true) (p : Pos) (env : Env), (backTo p (starEach es.py env)).any (·.1) = false
  | .nil, _, p, env => rfl
  | .cons e r, h, p, env => by
    unfold okA at h
    rw [Bool.and_eq_true] at h
    show (backTo p (starEach (e.py :: r.py) env)).any (·.1) = false
    rw [star_ex (ok_star h.1)]
    have ih := plain_args h.2 p env
    show (false || (backTo p (starEach r.py env)).any (·.1)) = false
    rw [ih]
    rfl
theorem plain_all {lm : Bool} {sc : Scope} : ∀ {es : Exs} (h : okA S lm sc es = true) (p : Pos) (env : Env), (backTo p (starEach es.py env)).all (fun x => !x.1) = true
  | .nil, _, p, env => rfl
  | .cons e r, h, p, env => by
    unfold okA at h
    rw [Bool.and_eq_true] at h
    show (backTo p (starEach (e.py :: r.py) env)).all (fun x => !x.1) = true
    rw [star_ex (ok_star h.1)]
    have ih := plain_all h.2 p env
    show (true && (backTo p (starEach r.py env)).all (fun x => !x.1)) = true
    rw [ih]
    rfl
theorem form_ok {lm : Bool} {sc : Scope} {es : Exs} (h : okA S lm sc es = true) (hl : es.len < 25) (p : Pos) (env : Env) : methodCallForm (es.py.length + ([] : List Keyword).length) (backTo p (starEach es.py env)) (backToKw p (keywordEach [] env)) = true := by
  unfold methodCallForm
  have h2 : (backToKw p (keywordEach [] env)).all (fun x => x.1.isSome) = true := rfl
  have h3 : (backToKw p (keywordEach [] env)).isEmpty = true := rfl
  rw [plain_all h, h2, h3, pys_len]
  have : es.len < 30 := by omega
  simp [this]
theorem two_star {lm : Bool} {sc : Scope} {es : Exs} (h : okA S lm sc es = true) (p : Pos) (env : Env) : ∀ e r, es = .cons e r → starEach (e.py :: r.py) env = (false, eval e.py env) :: starEach r.py env ∧ (backTo p (starEach r.py env)).any (·.1) = false := by
  rintro e r rfl
  unfold okA at h
  rw [Bool.and_eq_true] at h
  exact ⟨star_ex (ok_star h.1) _ _, plain_args h.2 _ _⟩
theorem m2_ok {X : Cx} {lm : Bool} {sc : Scope} {a k d : Ex} {n : Str} {p1 p : Pos} (ha : recv a = true) (hk : okE S lm sc k = true) (hd : okE S lm sc d = true) (hl : (p1.endLine == p.line) = true) : M2 X a.py n p1 k.py d.py p where
  base := recv_base ha _ _
  few := by
    rw [star_ex (ok_star hk), star_ex (ok_star hd)]
    rfl
  line := hl
  trees := by
    rw [star_ex (ok_star hk), star_ex (ok_star hd)]
    rfl
theorem so_call {X : Cx} {W : WX} {sc : Scope} {k : Nat} {lm : Bool} {f : Nat} {x : Str} {es : Exs} {p1 p : Pos} (C : CxF X q W P S sc k lm)
    (h : ((match S.fn f with
    | some (y, n) => decide (y = x) && decide (es.len = n)
    | none => false) && decide (0 < es.len) && glB sc x && okA S lm sc es) = true) (ha : SA X q W (es.ev P) es.py) : SE X q W (sCall P f (es.ev P)) (.Call (.Name x p1) es.py [] p) := by
  rw [Bool.and_eq_true] at h
  obtain ⟨h, hA⟩ := h
  simp only [Bool.and_eq_true, decide_eq_true_eq] at h
  obtain ⟨⟨h1, h2⟩, h3⟩ := h
  cases qf : S.fn f with
  | none => rw [qf] at h1; cases h1
  | some yn =>
    obtain ⟨y, n⟩ := yn
    rw [qf] at h1
    simp only [Bool.and_eq_true, decide_eq_true_eq] at h1
    obtain ⟨rfl, hn⟩ := h1
    obtain ⟨a, fd, ps, e1, e2, e3, e4, e5, e6⟩ := C.fv f y n qf
    cases es with
    | nil => cases h2
    | cons e r =>
      unfold okA at hA
      rw [Bool.and_eq_true] at hA
      exact s_call C.toCxG (C.rm.mono (Nat.le_succ _)) e6 (C.gl h3) e1 e2 e3 e4 e5 (star_ex (ok_star hA.1) _ _) (plain_args hA.2 _ _) (fun ρ G xs G' h => (evs_len _ ρ G G' xs h).trans hn) ha
theorem so_refd {X : Cx} {W : WX} {sc sc2 : Scope} {k : Nat} {lm : Bool} {g : Nat} {x : Str} {sa : Sx E} {e : Expr} {p1 p2 p : Pos} (C : CxF X q W P S sc k lm) (h : (lm && decide (S.rn g = some x) && glB sc x && LamX.lamSB sc sc2) = true)
    (hB : ∀ {X' : Cx} {W' : WX}, CxF X' q W' P S sc2 k false → SE X' q W' sa e) : SE X q W (sRefd P g sa) (.Call (.Name x p1) [.Lambda ⟨[], [], none, [], [], none, []⟩ e sc2 p2] [] p) := by
  simp only [Bool.and_eq_true, decide_eq_true_eq] at h
  obtain ⟨⟨⟨h1, h2⟩, h3⟩, h4⟩ := h
  obtain ⟨hr, ⟨c, Pt, TB, hc, hT, hu⟩, rf⟩ := C.lv h1
  obtain ⟨a, ex, pg, sg, gA, CS, fd, Ng, j, j2, q1, q2, q3, q4, q5, q6, q7, q8, q9, q10, FD, hb, hm, Sg, hNg, hva, hge, hme, hde, h0, hrf, hdb, hd, hcd⟩ := rf g x h2
  exact s_refd FD hb (C.gl h3) hm Sg hNg hva hge hme hde h0 hrf TB hc hT hu hr (LamX.lamS_by (by rw [C.sc]; exact h4)) rfl (fun _ _ _ _ _ => rfl) hdb hd hcd fun A outer s H E f c' hr2 => hB (C.lam A outer s H E sc2 f c' hr2)
theorem one_star {e : Ex} (h : starOk e = true) (env : Env) : starEach [e.py] env = [(false, eval e.py env)] := star_ex h [] env
theorem few_ok {e : Ex} (h : starOk e = true) (p : Pos) (env : Env) : ((backTo p (starEach [e.py] env)).all (fun x => !x.1) && (backToKw p (keywordEach [] env)).all (fun x => x.1.isSome)
      && decide ([e.py].length + ([] : List Keyword).length + (if ([] : List Keyword).isEmpty then 0 else 1) < 30)) = true := by
  rw [one_star h]
  rfl
theorem it_st {lm : Bool} {sc : Scope} {i : It} (h : okI S lm sc i = true) (env : Env) (x : Value) : foldedSetIterable i.py env x = pure x := by
  cases i with
  | l l =>
    cases l with
    | ofE e =>
      unfold okI okL at h
      rw [Bool.and_eq_true] at h
      exact flat_st h.2 env x
    | _ => rfl
  | a e =>
    unfold okI at h
    rw [Bool.and_eq_true] at h
    exact flat_st h.2 env x
  | _ => rfl
/-- as a value, of bools alone -/
abbrev SB (X : Cx) (q : Wq) (W : WX) (s : Sx Bool) (e : Expr) : Prop := Snd (dW X q) W s RB (fun σ H Q => wE X e σ H fun x H1 => ∃ c, x = .bl c ∧ Q c H1)
mutual
theorem soE : ∀ (e : Ex) {X : Cx} {W : WX} {sc : Scope} {k : Nat} {lm : Bool}, okE S lm sc e = true → CxF X q W P S sc k lm → SE X q W (e.ev P) e.py
  | .var i x p, X, W, sc, k, lm, h, C => so_var h C
  | .glb j x p, X, W, sc, k, lm, h, C => so_glb h C
  | .int i k2 p, X, W, sc, k, lm, h, C => s_int
  | .bl b k2 p, X, W, sc, k, lm, h, C => s_bl
  | .non k2 p, X, W, sc, k, lm, h, C => s_non
  | .str x k2 p, X, W, sc, k, lm, h, C => s_str
  | .bin o a b p, X, W, sc, k, lm, h, C => by
    unfold okE at h
    rw [Bool.and_eq_true] at h
    exact s_bin (soE a h.1 C) (soE b h.2 C)
  | .cmp o a b p, X, W, sc, k, lm, h, C => by
    unfold okE at h
    rw [Bool.and_eq_true] at h
    exact s_cmp C.toCxG (soE a h.1 C) (soE b h.2 C)
  | .isN a k2 p1 p, X, W, sc, k, lm, h, C => by
    unfold okE at h
    exact s_isN (soE a h C)
  | .ntN a k2 p1 p, X, W, sc, k, lm, h, C => by
    unfold okE at h
    exact s_ntN (soE a h C)
  | .not a p, X, W, sc, k, lm, h, C => by
    unfold okE at h
    exact s_not (soE a h C)
  | .and es p, X, W, sc, k, lm, h, C => by
    unfold okE at h
    exact s_vB (soAnd es p h C)
  | .or es p, X, W, sc, k, lm, h, C => by
    unfold okE at h
    exact s_vB (soOr es p h C)
  | .ifx c a b p, X, W, sc, k, lm, h, C => by
    unfold okE at h
    rw [Bool.and_eq_true, Bool.and_eq_true] at h
    exact s_ifx (soT c h.1.1 C) (soE a h.1.2 C) (soE b h.2 C)
  | .tup es k2 p, X, W, sc, k, lm, h, C => by
    unfold okE at h
    exact s_tup (soA es h C)
  | .sub a i p, X, W, sc, k, lm, h, C => by
    unfold okE at h
    rw [Bool.and_eq_true, Bool.and_eq_true] at h
    exact s_sub C.un (flat_ix h.2) (soE a h.1.1 C) (soE i h.1.2 C)
  | .slice a lo hi p1 p, X, W, sc, k, lm, h, C => by
    unfold okE at h
    rw [Bool.and_eq_true, Bool.and_eq_true] at h
    exact s_slice (soE a h.1.1 C) (soO lo h.1.2 C) (soO hi h.2 C)
  | .call f x es p1 p, X, W, sc, k, lm, h, C => by
    unfold okE at h
    have h2 := h
    rw [Bool.and_eq_true] at h2
    exact so_call C h (soA es h2.2 C)
  | .bi1 b a p1 p, X, W, sc, k, lm, h, C => by
    unfold okE at h
    rw [Bool.and_eq_true] at h
    exact s_bi1 (C.gl h.1) (bnm C b) (one_star (ok_star h.2) _) (soE a h.2 C)
  | .biL b l p1 p, X, W, sc, k, lm, h, C => by
    unfold okE at h
    rw [Bool.and_eq_true] at h
    exact s_biL C.toCxG (C.gl h.1) (bnl C b) (star_lx h.2 [] _) (soL l h.2 C)
  | .isi a t p1 p2 p, X, W, sc, k, lm, h, C => by
    unfold okE at h
    rw [Bool.and_eq_true, Bool.and_eq_true] at h
    exact s_isi (C.gl h.1.1) (C.bn _ (by decide)) (C.gl h.1.2) (bnt C t) (star_ex (ok_star h.2) _ _) (soE a h.2 C)
  | .inS a b p, X, W, sc, k, lm, h, C => by
    unfold okE at h
    rw [Bool.and_eq_true, Bool.and_eq_true] at h
    exact s_inS (flat_in h.2) (soE a h.1.1 C) (soE b h.1.2 C)
  | .sidx a b p1 p, X, W, sc, k, lm, h, C => by
    unfold okE at h
    rw [Bool.and_eq_true, Bool.and_eq_true, Bool.and_eq_true] at h
    exact s_sidx C.toCxG (recv_base h.1.2 _ _) (one_star (ok_star h.1.1.2) _) (few_ok (ok_star h.1.1.2) _ _) h.2 (soE a h.1.1.1 C) (soE b h.1.1.2 C)
  | .join a l p1 p, X, W, sc, k, lm, h, C => by
    unfold okE at h
    rw [Bool.and_eq_true, Bool.and_eq_true, Bool.and_eq_true] at h
    exact s_join (recv_base h.1.2 _ _) (star_lx h.1.1.2 [] _) h.2 (soE a h.1.1.1 C) (soL l h.1.1.2 C)
  | .subL l i p, X, W, sc, k, lm, h, C => by
    unfold okE at h
    rw [Bool.and_eq_true, Bool.and_eq_true] at h
    exact s_subL (flat_ix h.2) (soL l h.1.1 C) (soE i h.1.2 C)
  | .new l, X, W, sc, k, lm, h, C => by
    unfold okE at h
    rw [Bool.and_eq_true] at h
    exact s_new (soL l h.1 C)
  | .dct ks es p, X, W, sc, k, lm, h, C => by
    unfold okE at h
    rw [Bool.and_eq_true, Bool.and_eq_true, Bool.and_eq_true, Bool.and_eq_true, decide_eq_true_eq, decide_eq_true_eq, decide_eq_true_eq, decide_eq_true_eq] at h
    obtain ⟨⟨⟨⟨h1, h2⟩, h3⟩, h4⟩, h5⟩ := h
    exact s_dct (by rw [h1, pys_len]) ⟨h2, by rw [List.length_map]; exact h3, h4⟩ (soPs es h5 C)
  | .lenSet a p1 p2 p3 p, X, W, sc, k, lm, h, C => by
    unfold okE at h
    rw [Bool.and_eq_true, Bool.and_eq_true] at h
    exact s_lenSet C.toCxG (C.gl h.1.1) (C.bn _ (by decide)) (C.gl h.1.2) (C.bn _ (by decide)) (one_star (ok_star h.2) _) (soE a h.2 C)
  | .neL a b p, X, W, sc, k, lm, h, C => by
    unfold okE at h
    rw [Bool.and_eq_true] at h
    exact s_neL C.un (soL a h.1 C) (soL b h.2 C)
  | .refd g x e sc2 p1 p2 p, X, W, sc, k, lm, h, C => by
    unfold okE at h
    rw [Bool.and_eq_true] at h
    exact so_refd C h.1 fun C' => soE e h.2 C'
  | .attr a f p, X, W, sc, k, lm, h, C => by
    unfold okE at h
    rw [Bool.and_eq_true] at h
    exact s_attr C.av (recv_base h.2 _ _) (soE a h.1 C)
  | .meth a m es p1 p, X, W, sc, k, lm, h, C => by
    unfold okE at h
    simp only [Bool.and_eq_true, decide_eq_true_eq] at h
    obtain ⟨⟨⟨⟨h1, h2⟩, h3⟩, h4⟩, h5⟩ := h
    exact s_meth C.mv (C.rm.mono (Nat.le_succ _)) C.tk (two_star h3 _ _) (recv_base h2 _ _) (form_ok h3 h4 _ _) h5 (soE a h1 C) (soA es h3 C)
  | .make c es p1 p, X, W, sc, k, lm, h, C => by
    unfold okE at h
    rw [Bool.and_eq_true] at h
    exact s_make C.ci C.rm (C.gl h.1) (two_star h.2 _ _) (soA es h.2 C)
  | .dct0 p, X, W, sc, k, lm, h, C => s_dct0
  | .dcp a p1 p, X, W, sc, k, lm, h, C => by
    unfold okE at h
    rw [Bool.and_eq_true] at h
    exact s_dcp (C.gl h.1) (C.bn _ (by decide)) (one_star (ok_star h.2) _) (soE a h.2 C)
  | .dget a k2 d p1 p, X, W, sc, k, lm, h, C => by
    unfold okE at h
    simp only [Bool.and_eq_true] at h
    obtain ⟨⟨⟨⟨h1, h2⟩, h3⟩, h4⟩, h5⟩ := h
    exact s_dget C.un (m2_ok h4 h2 h3 h5) (soE a h1 C) (soE k2 h2 C) (soE d h3 C)
  | .dpop a k2 d p1 p, X, W, sc, k, lm, h, C => by
    unfold okE at h
    simp only [Bool.and_eq_true] at h
    obtain ⟨⟨⟨⟨h1, h2⟩, h3⟩, h4⟩, h5⟩ := h
    exact s_dpop (m2_ok h4 h2 h3 h5) (soE a h1 C) (soE k2 h2 C) (soE d h3 C)
  | .chain o1 o2 a b c p, X, W, sc, k, lm, h, C => by
    unfold okE at h
    rw [Bool.and_eq_true, Bool.and_eq_true] at h
    exact s_chain C.un (soE a h.1.1 C) (soE b h.1.2 C) (soE c h.2 C)
  | .tupE a p1 p, X, W, sc, k, lm, h, C => by
    unfold okE at h
    rw [Bool.and_eq_true] at h
    exact s_tupE (C.gl h.1) (C.bn _ (by decide)) (one_star (ok_star h.2) _) (soE a h.2 C)
  | .min2 a b p1 p, X, W, sc, k, lm, h, C => by
    unfold okE at h
    rw [Bool.and_eq_true, Bool.and_eq_true] at h
    exact s_min2 C.toCxG (C.gl h.1.1) (C.bn _ (by decide)) (by rw [star_ex (ok_star h.1.2), one_star (ok_star h.2)]) (one_star (ok_star h.2) _) (soE a h.1.2 C) (soE b h.2 C)
theorem soT : ∀ (e : Ex) {X : Cx} {W : WX} {sc : Scope} {k : Nat} {lm : Bool}, okT S lm sc e = true → CxF X q W P S sc k lm → ST X q W (e.evT P) e.py
  | .cmp o a b p, X, W, sc, k, lm, h, C => by
    unfold okT at h
    rw [Bool.and_eq_true] at h
    exact st_cmp C.toCxG (soE a h.1 C) (soE b h.2 C)
  | .isN a k2 p1 p, X, W, sc, k, lm, h, C => by
    unfold okT at h
    exact st_isN (soE a h C)
  | .ntN a k2 p1 p, X, W, sc, k, lm, h, C => by
    unfold okT at h
    exact st_ntN (soE a h C)
  | .not a p, X, W, sc, k, lm, h, C => by
    unfold okT at h
    exact st_not (soT a h C)
  | .and es p, X, W, sc, k, lm, h, C => by
    unfold okT at h
    exact st_w (soTAnd es p h C)
  | .or es p, X, W, sc, k, lm, h, C => by
    unfold okT at h
    exact st_w (soTOr es p h C)
  | .var i x p, X, W, sc, k, lm, h, C => by
    unfold okT at h
    exact st_tru (so_var h C) (fun _ => rfl)
  | .bl b k2 p, X, W, sc, k, lm, h, C => st_tru s_bl (fun _ => rfl)
  | .sub a i p, X, W, sc, k, lm, h, C => by
    unfold okT at h
    rw [Bool.and_eq_true, Bool.and_eq_true] at h
    exact st_tru (s_sub C.un (flat_ix h.2) (soE a h.1.1 C) (soE i h.1.2 C)) (fun _ => rfl)
  | .call f x es p1 p, X, W, sc, k, lm, h, C => by
    unfold okT at h
    have h2 := h
    rw [Bool.and_eq_true] at h2
    exact st_tru (so_call C h (soA es h2.2 C)) (fun _ => rfl)
  | .biL b l p1 p, X, W, sc, k, lm, h, C => by
    unfold okT at h
    rw [Bool.and_eq_true] at h
    exact st_tru (s_biL C.toCxG (C.gl h.1) (bnl C b) (star_lx h.2 [] _) (soL l h.2 C)) (fun _ => rfl)
  | .isi a t p1 p2 p, X, W, sc, k, lm, h, C => by
    unfold okT at h
    rw [Bool.and_eq_true, Bool.and_eq_true] at h
    exact st_tru (s_isi (C.gl h.1.1) (C.bn _ (by decide)) (C.gl h.1.2) (bnt C t) (star_ex (ok_star h.2) _ _) (soE a h.2 C)) (fun _ => rfl)
  | .refd g x e sc2 p1 p2 p, X, W, sc, k, lm, h, C => by
    unfold okT at h
    rw [Bool.and_eq_true] at h
    exact st_tru (so_refd C h.1 fun C' => soE e h.2 C') (fun _ => rfl)
  | .inS a b p, X, W, sc, k, lm, h, C => by
    unfold okT at h
    rw [Bool.and_eq_true, Bool.and_eq_true] at h
    exact st_inS (flat_in h.2) (soE a h.1.1 C) (soE b h.1.2 C)
  | .neL a b p, X, W, sc, k, lm, h, C => by
    unfold okT at h
    rw [Bool.and_eq_true] at h
    exact st_neL C.un (soL a h.1 C) (soL b h.2 C)
  | .glb _ _ _, X, W, sc, k, lm, h, C => by unfold okT at h; cases h
  | .int _ _ _, X, W, sc, k, lm, h, C => by unfold okT at h; cases h
  | .non _ _, X, W, sc, k, lm, h, C => by unfold okT at h; cases h
  | .str _ _ _, X, W, sc, k, lm, h, C => by unfold okT at h; cases h
  | .bin _ _ _ _, X, W, sc, k, lm, h, C => by unfold okT at h; cases h
  | .ifx _ _ _ _, X, W, sc, k, lm, h, C => by unfold okT at h; cases h
  | .tup _ _ _, X, W, sc, k, lm, h, C => by unfold okT at h; cases h
  | .slice _ _ _ _ _, X, W, sc, k, lm, h, C => by unfold okT at h; cases h
  | .bi1 _ _ _ _, X, W, sc, k, lm, h, C => by unfold okT at h; cases h
  | .sidx _ _ _ _, X, W, sc, k, lm, h, C => by unfold okT at h; cases h
  | .join _ _ _ _, X, W, sc, k, lm, h, C => by unfold okT at h; cases h
  | .subL _ _ _, X, W, sc, k, lm, h, C => by unfold okT at h; cases h
  | .new _, X, W, sc, k, lm, h, C => by unfold okT at h; cases h
  | .dct _ _ _, X, W, sc, k, lm, h, C => by unfold okT at h; cases h
  | .lenSet _ _ _ _ _, X, W, sc, k, lm, h, C => by unfold okT at h; cases h
  | .chain o1 o2 a b c p, X, W, sc, k, lm, h, C => by
    unfold okT at h
    rw [Bool.and_eq_true, Bool.and_eq_true] at h
    exact st_chain C.un (soE a h.1.1 C) (soE b h.1.2 C) (soE c h.2 C)
  | .attr _ _ _, X, W, sc, k, lm, h, C => by unfold okT at h; cases h
  | .meth _ _ _ _ _, X, W, sc, k, lm, h, C => by unfold okT at h; cases h
  | .make _ _ _ _, X, W, sc, k, lm, h, C => by unfold okT at h; cases h
  | .dct0 _, X, W, sc, k, lm, h, C => by unfold okT at h; cases h
  | .dcp _ _ _, X, W, sc, k, lm, h, C => by unfold okT at h; cases h
  | .dget _ _ _ _ _, X, W, sc, k, lm, h, C => by unfold okT at h; cases h
  | .dpop _ _ _ _ _, X, W, sc, k, lm, h, C => by unfold okT at h; cases h
  | .tupE _ _ _, X, W, sc, k, lm, h, C => by unfold okT at h; cases h
  | .min2 _ _ _ _, X, W, sc, k, lm, h, C => by unfold okT at h; cases h
theorem soA : ∀ (es : Exs) {X : Cx} {W : WX} {sc : Scope} {k : Nat} {lm : Bool}, okA S lm sc es = true → CxF X q W P S sc k lm → SA X q W (es.ev P) es.py
  | .nil, X, W, sc, k, lm, h, C => sa_nil
  | .cons e r, X, W, sc, k, lm, h, C => by
    unfold okA at h
    rw [Bool.and_eq_true] at h
    exact sa_cons (star_ex (ok_star h.1) _ _) (soE e h.1 C) (soA r h.2 C)
theorem soPs : ∀ (es : Exs) {X : Cx} {W : WX} {sc : Scope} {k : Nat} {lm : Bool}, okA S lm sc es = true → CxF X q W P S sc k lm → SPs X q W (es.ev P) es.py
  | .nil, X, W, sc, k, lm, h, C => sp_nil
  | .cons e r, X, W, sc, k, lm, h, C => by
    unfold okA at h
    rw [Bool.and_eq_true] at h
    exact sp_cons (soE e h.1 C) (soPs r h.2 C)
theorem soAnd : ∀ (es : Exs) (p : Pos) {X : Cx} {W : WX} {sc : Scope} {k : Nat} {lm : Bool}, okBs S lm sc es = true → CxF X q W P S sc k lm → SB X q W (es.evAnd P) (.BoolOp .And es.py p)
  | .nil, p, X, W, sc, k, lm, h, C => by unfold okBs at h; cases h
  | .cons e .nil, p, X, W, sc, k, lm, h, C => by
    unfold okBs at h
    exact sv_and1 (soE e h C)
  | .cons e (.cons e2 r), p, X, W, sc, k, lm, h, C => by
    unfold okBs at h
    rw [Bool.and_eq_true] at h
    exact sv_and (soE e h.1 C) (soAnd (.cons e2 r) p h.2 C)
theorem soOr : ∀ (es : Exs) (p : Pos) {X : Cx} {W : WX} {sc : Scope} {k : Nat} {lm : Bool}, okBs S lm sc es = true → CxF X q W P S sc k lm → SB X q W (es.evOr P) (.BoolOp .Or es.py p)
  | .nil, p, X, W, sc, k, lm, h, C => by unfold okBs at h; cases h
  | .cons e .nil, p, X, W, sc, k, lm, h, C => by
    unfold okBs at h
    exact sv_and1 (soE e h C)
  | .cons e (.cons e2 r), p, X, W, sc, k, lm, h, C => by
    unfold okBs at h
    rw [Bool.and_eq_true] at h
    exact sv_or (soE e h.1 C) (soOr (.cons e2 r) p h.2 C)
theorem soTAnd : ∀ (es : Exs) (p : Pos) {X : Cx} {W : WX} {sc : Scope} {k : Nat} {lm : Bool}, okTs S lm sc es = true → CxF X q W P S sc k lm → SW X q W (es.evTAnd P) (.BoolOp .And es.py p)
  | .nil, p, X, W, sc, k, lm, h, C => by unfold okTs at h; cases h
  | .cons e .nil, p, X, W, sc, k, lm, h, C => by
    unfold okTs at h
    exact sw_and1 (soT e h C)
  | .cons e (.cons e2 r), p, X, W, sc, k, lm, h, C => by
    unfold okTs at h
    rw [Bool.and_eq_true] at h
    exact sw_and (soT e h.1 C) (soTAnd (.cons e2 r) p h.2 C)
theorem soTOr : ∀ (es : Exs) (p : Pos) {X : Cx} {W : WX} {sc : Scope} {k : Nat} {lm : Bool}, okTs S lm sc es = true → CxF X q W P S sc k lm → SW X q W (es.evTOr P) (.BoolOp .Or es.py p)
  | .nil, p, X, W, sc, k, lm, h, C => by unfold okTs at h; cases h
  | .cons e .nil, p, X, W, sc, k, lm, h, C => by
    unfold okTs at h
    exact sw_or1 (soT e h C)
  | .cons e (.cons e2 r), p, X, W, sc, k, lm, h, C => by
    unfold okTs at h
    rw [Bool.and_eq_true] at h
    exact sw_or (soT e h.1 C) (soTOr (.cons e2 r) p h.2 C)
theorem soO : ∀ (o : Ox) {X : Cx} {W : WX} {sc : Scope} {k : Nat} {lm : Bool}, okO S lm sc o = true → CxF X q W P S sc k lm → SO X q W (o.ev P) o.py
  | .none, X, W, sc, k, lm, h, C => so_none
  | .some e, X, W, sc, k, lm, h, C => by
    unfold okO at h
    exact so_some (soE e h C)
theorem soOT : ∀ (o : Ox) {X : Cx} {W : WX} {sc : Scope} {k : Nat} {lm : Bool}, okOT S lm sc o = true → CxF X q W P S sc k lm → Snd (dW X q) W (o.evT P) RB (wTs X o.pys)
  | .none, X, W, sc, k, lm, h, C => fun ρ G σ H m Q ME M F => ⟨_, pts_nil, Fin.here F M rfl⟩
  | .some e, X, W, sc, k, lm, h, C => by
    unfold okOT at h
    exact fun ρ G σ H m Q ME M F => ⟨_, pts_one pt_w, soT e h C ρ G σ H m Q ME M F⟩
theorem soL : ∀ (l : Lx) {X : Cx} {W : WX} {sc : Scope} {k : Nat} {lm : Bool}, okL S lm sc l = true → CxF X q W P S sc k lm → SL X q W (l.ev P) l.py
  | .ofE e, X, W, sc, k, lm, h, C => by
    unfold okL at h
    rw [Bool.and_eq_true] at h
    exact l_ofE (soE e h.1 C)
  | .disp es p, X, W, sc, k, lm, h, C => by
    unfold okL at h
    exact l_disp (soA es h C)
  | .cat a b p, X, W, sc, k, lm, h, C => by
    unfold okL at h
    rw [Bool.and_eq_true] at h
    exact l_cat (soL a h.1 C) (soL b h.2 C)
  | .listS a p1 p, X, W, sc, k, lm, h, C => by
    unfold okL at h
    rw [Bool.and_eq_true] at h
    exact l_listS C.toCxG (C.gl h.1) (C.bn _ (by decide)) (one_star (ok_star h.2) _) (soE a h.2 C)
  | .sortS a p1 p, X, W, sc, k, lm, h, C => by
    unfold okL at h
    rw [Bool.and_eq_true] at h
    exact l_sortS C.toCxG (C.gl h.1) (C.bn _ (by decide)) (one_star (ok_star h.2) _) (soE a h.2 C)
  | .listT a p1 p, X, W, sc, k, lm, h, C => by
    unfold okL at h
    rw [Bool.and_eq_true] at h
    exact l_listT (C.gl h.1) (C.bn _ (by decide)) (one_star (ok_star h.2) _) (soE a h.2 C)
  | .lc e t it c sc2 own p, X, W, sc, k, lm, h, C => by
    unfold okL at h
    rw [Bool.and_eq_true, Bool.and_eq_true, Bool.and_eq_true, Bool.and_eq_true, List.all_eq_true] at h
    obtain ⟨⟨⟨⟨h1, h2⟩, h3⟩, h4⟩, h5⟩ := h
    refine l_lc C.toCxG (by rw [C.N, C.sc]; exact blkOk_by h2) (soI it h1 C) (fun s H C0 cl fp n hn => ?_) (fun n hn => ?_) (fun s H C0 cl fp => soOT c h4 (C.blk s H sc2 C0 cl fp)) (fun s H C0 cl fp => soE e h5 (C.blk s H sc2 C0 cl fp)) ?_
    · have z := h3 n hn
      rw [Bool.and_eq_true] at z
      exact nmL_ok (C.blk s H sc2 C0 cl fp) z.1
    · have z := h3 n hn
      rw [Bool.and_eq_true, decide_eq_true_eq] at z
      exact z.2
    · exact fun x => it_st h1 _ x
theorem soI : ∀ (i : It) {tg : Expr} {X : Cx} {W : WX} {sc : Scope} {k : Nat} {lm : Bool}, okI S lm sc i = true → CxF X q W P S sc k lm → SI X q W tg (i.ev P) i.py
  | .l l, tg, X, W, sc, k, lm, h, C => by
    unfold okI at h
    exact i_l (soL l h C)
  | .a e, tg, X, W, sc, k, lm, h, C => by
    unfold okI at h
    rw [Bool.and_eq_true] at h
    exact i_a (soE e h.1 C)
  | .r1 a p1 p, tg, X, W, sc, k, lm, h, C => by
    unfold okI at h
    rw [Bool.and_eq_true] at h
    exact i_r1 (C.gl h.1) (C.bn _ (by decide)) (one_star (ok_star h.2) _) (soE a h.2 C)
  | .r2 a b p1 p, tg, X, W, sc, k, lm, h, C => by
    unfold okI at h
    rw [Bool.and_eq_true, Bool.and_eq_true] at h
    exact i_r2 (C.gl h.1.1) (C.bn _ (by decide)) (by rw [star_ex (ok_star h.1.2), one_star (ok_star h.2)]) (one_star (ok_star h.2) _) (soE a h.1.2 C) (soE b h.2 C)
end
end
end Lt
end
section
set_option Elab.async false
set_option linter.all false
set_option maxRecDepth 100000
set_option maxHeartbeats 1000000
/-! Lt: all statements that pass the check are sound. -/
namespace Lt
open PySem PySem.Spec PyProof.Rows L2
def nmsS (S : Sg) (sc : Scope) (t : Tg) : Bool := t.nms.all fun n => nmS S sc n
def isInt : Ex → Bool
  | .int _ _ _ => true
  | _ => false
def allInt : Exs → Bool
  | .nil => true
  | .cons e r => isInt e && allInt r
/-- a store that is not turned about -/
def asgOk (sc : Scope) : Tg → Ex → Bool
  | .name _, e => flat e
  | .tup ns _ _, .tup es _ _ => allInt es || decide (4 ≤ ns.length) || ns.any fun n => !(decide (sc.names.lookup n.x = some .local))
  | .tup _ _ _, e => flat e
/-- a value that a store to an attribute may take -/
def attV : Ex → Bool
  | .new (.disp _ _) => true
  | .new (.listT _ _ _) => true
  | .new (.sortS _ _ _) => true
  | .new (.cat _ _ _) => true
  | e => flat e
theorem attV_sw {e : Ex} (h : attV e = true) (t : Option Expr) (l : Nat) (env : Env) : swapsWith e.py t l env = pure false := by
  cases e with
  | new l' => cases l' <;> first | rfl | (cases h; done)
  | _ => rfl
def noStar : Expr → Bool
  | .Starred _ _ => false
  | _ => true
def parOk (sc : Scope) (a b : Nm) (e f : Expr) : Bool :=
  decide (a.x ≠ b.x) && (a.p.line == b.p.line) && !(foldedForSure 8 e && foldedForSure 8 f) && !(constantsAlone 8 e && constantsAlone 8 f) && noStar e && noStar f && decide (sc.kind = .function)
mutual
def okS (S : Sg) (lm : Bool) (sc : Scope) : Stm → Bool
  | .asg t e p => nmsS S sc t && asgOk sc t e && okE S lm sc e
  | .asgL n l p => nmS S sc n && (match l with
    | .ofE _ => false
    | .disp es p2 => okL S lm sc (.disp es p2)
    | .cat a b p2 => okL S lm sc (.cat a b p2)
    | .listS a p1 p2 => okL S lm sc (.listS a p1 p2)
    | .sortS a p1 p2 => okL S lm sc (.sortS a p1 p2)
    | .listT a p1 p2 => okL S lm sc (.listT a p1 p2)
    | .lc e t it c sc2 own p2 => okL S lm sc (.lc e t it c sc2 own p2) && nmL S sc n && decide (sc.kind = .function) && (n.p.line == p2.line) && !(sc2.names.any fun (y, k) => y == n.x && (k == .local || k == .cell)))
  | .par a b e f _ _ _ _ _ => nmL S sc a && nmL S sc b && decide (a.i ≠ b.i) && parOk sc a b e.py f.py && okE S lm sc e && okE S lm sc f
  | .aug _ n e _ => nmS S sc n && okE S lm sc e
  | .setD o k e _ _ => okE S lm sc o && okE S lm sc k && okE S lm sc e && flat e
  | .setI o k e _ _ => okE S lm sc o && okE S lm sc k && okE S lm sc e && flat e && flat k
  | .setA o _ e _ _ => okE S lm sc o && okE S lm sc e && attV e
  | .augA _ a _ e _ _ => okE S lm sc a && okE S lm sc e
  | .parA o1 _ o2 _ e1 e2 _ _ _ _ _ _ _ => okE S lm sc o1 && okE S lm sc o2 && okE S lm sc e1 && okE S lm sc e2
  | .tri b g x _ i xi _ j xj _ _ _ _ _ _ _ _ _ _ => okSs S false sc b && decide (S.tn g = some x) && glB sc x && decide (S.N[i]? = some xi) && visB sc xi && ndB xi && decide (S.N[j]? = some xj) && visB sc xj && ndB xj
  | .expr e _ => okE S lm sc e && flat e
  | .app o e p1 p2 _ => okE S lm sc o && okE S lm sc e && recv o && (p1.endLine == p2.line)
  | .ifs c a b _ => okT S lm sc c && okSs S lm sc a && okSs S lm sc b
  | .forr t it b _ => nmsS S sc t && okI S lm sc it && okSs S lm sc b
  | .whil c b _ => okT S lm sc c && okSs S lm sc b
  | .ret e _ => okE S lm sc e
  | .retN _ => true
  | .rais c x _ _ _ _ _ _ => decide (S.xn c = some x) && glB sc x
  | .pas _ => true
  | .brk _ => true
  | .cont _ => true
def okSs (S : Sg) (lm : Bool) (sc : Scope) : Stms → Bool
  | .nil => true
  | .cons s r => okS S lm sc s && okSs S lm sc r
end
/-- a def's context -/
structure CxB (X : Cx) (q : Wq) (W : WX) (P : Par) (S : Sg) (sc : Scope) (k : Nat) (lm : Bool) : Prop extends CxF X q W P S sc k lm where
  po : PassesOwn (model X.prog X.w) X.A X.env X.xe
  fnt : ∀ x, X.fn x = true
  tv : ∀ g x, S.tn g = some x → TfOk X.K X.mg q P g x
  st : X.stack = X.env :: X.outer
  fr : X.env.frame = some X.env.locals
  xk : ∀ c x, S.xn c = some x → ∃ C, q.xc c = .ref C ∧ X.mg x = some (.ref C) ∧ PySem.W.excIn X.K C He.veBase "ValueError.__new__" = true ∧ PySem.W.keepIn X.K (.ref C) = true ∧ PySem.W.subIn X.K (.ref C) (.type "BaseException") = some true ∧ PySem.W.typeIn X.K (.ref C) = some (.type "type") ∧ (x == ("__debug__" : Str)) = false
  xv : ∀ c x, S.xn c = some x → ∀ (m : Str) (j : Nat) (p p2 pos : Pos), Gl X x → PMk X (.Call (.Name x p) [.Constant (.str m) j p2] [] pos) (fun _ H Q => Q (q.xc c) none H)
section
variable {P : Par} {S : Sg} {q : Wq} {X : Cx} {W : WX} {sc : Scope} {k : Nat} {lm : Bool}
theorem CxB.tr (C : CxB X q W P S sc k lm) {W' : WX} {pn : List (Addr × Obj)} {xe : Value → Shared → Prop} (tk : Takes (X.tr pn xe) W') (po : PassesOwn (model X.prog X.w) X.A X.env xe) : CxB (X.tr pn xe) q W' P S sc k false where
  calm := C.calm
  nd := C.nd
  tk := tk
  un := C.un
  N := C.N
  sc := C.sc
  rm := C.rm
  bn := C.bn
  gv := C.gv
  fv := C.fv
  lv := fun z => nomatch z
  av := C.av
  mv := C.mv
  ci := C.ci
  po := po
  fnt := C.fnt
  tv := C.tv
  st := C.st
  fr := C.fr
  xv := fun c x hc m j p p2 pos hg => by
    obtain ⟨Cc, e1, e2, e3, e4, e5, e6, e7⟩ := C.xk c x hc
    rw [e1]
    exact pmk_own PySem.F.excBase_ValueError e3 e2 e4 (raises_own e5 e6) hg e7
  xk := C.xk
theorem CxB.s (C : CxB X q W P S sc k lm) : CxS X W := ⟨C.toCxG, C.po⟩
theorem nmS_ok (C : CxB X q W P S sc k lm) {n : Nm} (h : nmS S sc n = true) : NmOk X n := by
  unfold nmS at h
  rw [Bool.and_eq_true, decide_eq_true_eq] at h
  obtain ⟨h1, h2⟩ := h
  refine ⟨by rw [C.N]; exact h1, ?_, .inl (C.fnt _)⟩
  show Loc X.env.scope n.x
  rw [C.sc]
  split at h2
  · exact .inl (by assumption)
  · exact .inr (by assumption)
  · cases h2
theorem nmL_lk (C : CxB X q W P S sc k lm) {n : Nm} (h : nmL S sc n = true) : X.N[n.i]? = some n.x ∧ X.env.scope.names.lookup n.x = some .local := by
  unfold nmL at h
  rw [Bool.and_eq_true, decide_eq_true_eq] at h
  obtain ⟨h1, h2⟩ := h
  refine ⟨by rw [C.N]; exact h1, ?_⟩
  rw [C.sc]
  split at h2
  · assumption
  · cases h2
theorem isInt_folded {e : Ex} (h : isInt e = true) : foldedForSure 8 e.py = true ∧ noStar e.py = true := by
  cases e <;> first | exact ⟨rfl, rfl⟩ | cases h
theorem allInt_folded : ∀ {es : Exs}, allInt es = true → es.py.all (foldedForSure 8) = true ∧ (es.py.any fun | .Starred .. => true | _ => false) = false
  | .nil, _ => ⟨rfl, rfl⟩
  | .cons e r, h => by
    unfold allInt at h
    rw [Bool.and_eq_true] at h
    have ih := allInt_folded h.2
    cases e <;> first | exact ⟨by show (foldedForSure 8 _ && r.py.all (foldedForSure 8)) = true; rw [ih.1]; rfl, by show (false || _) = false; rw [ih.2]; rfl⟩ | cases h.1
theorem sw_const {ts vs : List Expr} {k k2 : Nat} {p p2 : Pos} {env : Env} (h1 : vs.all (foldedForSure 8) = true) (h2 : (vs.any fun | .Starred .. => true | _ => false) = false) : swappedStores [.Tuple ts k p] (.Tuple vs k2 p2) env = pure none := by
  unfold swappedStores
  simp only [h1, h2]
  split
  · rfl
  · split
    · rfl
    · split
      · rfl
      · split
        · rfl
        · rename_i hh; exact absurd trivial hh
theorem sw_par {a b : Nm} {e f : Expr} {k k2 : Nat} {p p2 : Pos} {env : Env} (hk : env.scope.kind = .function) (ha : env.scope.names.lookup a.x = some .local) (hb : env.scope.names.lookup b.x = some .local) (hab : a.x ≠ b.x) (hl : (a.p.line == b.p.line) = true)
   (hf : (foldedForSure 8 e && foldedForSure 8 f) = false) (hc : (constantsAlone 8 e && constantsAlone 8 f) = false) (he : noStar e = true) (hf2 : noStar f = true) : swappedStores [.Tuple [a.py, b.py] k p] (.Tuple [e, f] k2 p2) env = pure (some [a.x, b.x]) := by
  have ka : env.kindOf a.x = some .local := ha
  have kb : env.kindOf b.x = some .local := hb
  have hbk : env.blockKind = .function := by unfold Env.blockKind; rw [hk]; rfl
  have e1 : (env.kindOf a.x == some NameKind.local && a.p.line == a.p.line) = true := by rw [ka]; simp
  have e2 : (env.kindOf b.x == some NameKind.local && b.p.line == a.p.line) = true := by
    rw [kb, beq_iff_eq.mp hl]; simp
  unfold swappedStores
  simp only []
  split
  · rename_i h
    simp [hbk] at h
  · split
    · rename_i h
      rw [List.any_eq_true] at h
      obtain ⟨x, hx, hm⟩ := h
      have hx : x = e ∨ x = f := by simpa using hx
      rcases hx with rfl | rfl
      · cases x <;> first | (cases hm; done) | (cases he; done)
      · cases x <;> first | (cases hm; done) | (cases hf2; done)
    · split
      · rename_i h
        simp [Nm.py, ka, kb, Expr.pos, beq_iff_eq.mp hl, List.eraseDups_cons, hab.symm] at h
      · split
        · rename_i h
          simp at h
          rw [h.1, h.2] at hf
          cases hf
        · split
          · rename_i h
            simp at h
            rw [h.1, h.2] at hc
            cases hc
          · simp [Nm.py, ka, kb, Expr.pos, beq_iff_eq.mp hl]
theorem sw_long {ts vs : List Expr} {k k2 : Nat} {p p2 : Pos} {env : Env} (h : 4 ≤ ts.length) : swappedStores [.Tuple ts k p] (.Tuple vs k2 p2) env = pure none := by
  have e : (!(ts.length == 2 || ts.length == 3) || vs.length != ts.length || env.blockKind != .function) = true := by
    have h2 : (ts.length == 2) = false := beq_eq_false_iff_ne.mpr (by omega)
    have h3 : (ts.length == 3) = false := beq_eq_false_iff_ne.mpr (by omega)
    rw [h2, h3]
    rfl
  unfold swappedStores
  simp only [e]
  rfl
theorem sw_attr {o1 o2 : Expr} {f1 f2 : Str} {q1 q2 : Pos} {vs : List Expr} {k k2 : Nat} {p p2 : Pos} {env : Env} : swappedStores [.Tuple [.Attribute o1 f1 q1, .Attribute o2 f2 q2] k p] (.Tuple vs k2 p2) env = pure none := by
  unfold swappedStores
  simp only []
  split
  · rfl
  · split
    · rfl
    · rfl
theorem sub_as {X : Cx} {o : Expr} {k : Ex} {p1 : Pos} (h : flat k = true) : SubAs X o k.py p1 := by
  intro v
  cases k <;> first | rfl | cases h
theorem fm_le {α β : Type} (f : α → Option β) : ∀ l : List α, (l.filterMap f).length ≤ l.length
  | [] => by simp
  | a :: l => by
    have := fm_le f l
    rw [List.filterMap_cons]
    split
    · rw [List.length_cons]; omega
    · rw [List.length_cons, List.length_cons]; omega
theorem fm_lt {α β : Type} (f : α → Option β) : ∀ l : List α, (∃ a ∈ l, f a = none) → (l.filterMap f).length < l.length
  | [], ⟨a, h, _⟩ => by cases h
  | a :: l, ⟨b, hb, he⟩ => by
    rw [List.filterMap_cons]
    rcases List.mem_cons.mp hb with rfl | hb
    · rw [he]
      have := fm_le f l
      simp only [List.length_cons]
      omega
    · have := fm_lt f l ⟨b, hb, he⟩
      split
      · rw [List.length_cons]; omega
      · rw [List.length_cons, List.length_cons]; omega
theorem sw_cell {ns : List Nm} {vs : List Expr} {k k2 : Nat} {p p2 : Pos} {env : Env} (h : ∃ n ∈ ns, ¬ env.kindOf n.x = some .local) : swappedStores [.Tuple (ns.map Nm.py) k p] (.Tuple vs k2 p2) env = pure none := by
  have key : ∀ line : Nat, (((ns.map Nm.py).filterMap fun
      | .Name id pos => if env.kindOf id == some .local && pos.line == line then some id else none
      | _ => none).length != (ns.map Nm.py).length) = true := by
    intro line
    obtain ⟨n, hn, hk⟩ := h
    have := fm_lt (fun (e : Expr) => match e with
      | .Name id pos => if env.kindOf id == some .local && pos.line == line then some id else none
      | _ => none) (ns.map Nm.py) ⟨n.py, List.mem_map_of_mem hn, by
        show (if env.kindOf n.x == some .local && n.p.line == line then some n.x else none) = none
        rw [if_neg]
        intro z
        rw [Bool.and_eq_true] at z
        exact hk (beq_iff_eq.mp z.1)⟩
    exact bne_iff_ne.mpr (Nat.ne_of_lt this)
  unfold swappedStores
  simp only []
  split
  · rfl
  · split
    · rfl
    · rw [if_pos (by rw [Bool.or_eq_true]; exact .inl (key _))]
theorem asg_sw {t : Tg} {e : Ex} {p : Pos} {env : Env} (h : asgOk env.scope t e = true) : swapsWithSole [t.py] e.py p.line env = pure false ∧ swappedStores [t.py] e.py env = pure none := by
  cases t with
  | name n => exact ⟨by unfold swapsWithSole; exact flat_sw (e := e) (by unfold asgOk at h; exact h) _ _ _, by cases e <;> rfl⟩
  | tup ns k p2 =>
    cases e with
    | tup es k3 p3 =>
      have h' : (allInt es || decide (4 ≤ ns.length) || ns.any fun n => !(decide (env.scope.names.lookup n.x = some .local))) = true := h
      rw [Bool.or_eq_true, Bool.or_eq_true, decide_eq_true_eq, List.any_eq_true] at h'
      rcases h' with (h' | h') | h'
      · obtain ⟨h1, h2⟩ := allInt_folded h'
        exact ⟨rfl, sw_const h1 h2⟩
      · exact ⟨rfl, sw_long (by rw [List.length_map]; exact h')⟩
      · obtain ⟨n, hn, hk⟩ := h'
        exact ⟨rfl, sw_cell ⟨n, hn, fun z => (by rw [show env.scope.names.lookup n.x = some .local from z] at hk; simp at hk)⟩⟩
    | new l => cases h
    | _ => exact ⟨rfl, rfl⟩
mutual
theorem soS : ∀ (s : Stm) {X : Cx} {W : WX} {sc : Scope} {k : Nat} {lm : Bool}, okS S lm sc s = true → CxB X q W P S sc k lm → SS X q W (s.ev P) s.py
  | .asg t e p, X, W, sc, k, lm, h, C => by
    unfold okS nmsS at h
    rw [Bool.and_eq_true, Bool.and_eq_true, List.all_eq_true] at h
    obtain ⟨⟨h1, h2⟩, h3⟩ := h
    obtain ⟨w1, w2⟩ := asg_sw (p := p) (env := X.env) (by rw [C.sc]; exact h2)
    exact q_asg C.toCxG (fun n hn => nmS_ok C (h1 n hn)) w1 w2 (soE e h3 C.toCxF)
  | .asgL n (.ofE e) p, X, W, sc, k, lm, h, C => by
    unfold okS at h
    rw [Bool.and_eq_true] at h
    cases h.2
  | .asgL n (.disp es p2) p, X, W, sc, k, lm, h, C => by
    unfold okS at h
    rw [Bool.and_eq_true] at h
    exact q_set C.toCxG (nmS_ok C h.1) (by rfl) (s_new (soL (.disp es p2) h.2 C.toCxF))
  | .asgL n (.cat a b p2) p, X, W, sc, k, lm, h, C => by
    unfold okS at h
    rw [Bool.and_eq_true] at h
    exact q_set C.toCxG (nmS_ok C h.1) (by rfl) (s_new (soL (.cat a b p2) h.2 C.toCxF))
  | .asgL n (.listS a p1 p2) p, X, W, sc, k, lm, h, C => by
    unfold okS at h
    rw [Bool.and_eq_true] at h
    exact q_set C.toCxG (nmS_ok C h.1) (by rfl) (s_new (soL (.listS a p1 p2) h.2 C.toCxF))
  | .asgL n (.sortS a p1 p2) p, X, W, sc, k, lm, h, C => by
    unfold okS at h
    rw [Bool.and_eq_true] at h
    exact q_set C.toCxG (nmS_ok C h.1) (by rfl) (s_new (soL (.sortS a p1 p2) h.2 C.toCxF))
  | .asgL n (.listT a p1 p2) p, X, W, sc, k, lm, h, C => by
    unfold okS at h
    rw [Bool.and_eq_true] at h
    exact q_set C.toCxG (nmS_ok C h.1) (by rfl) (s_new (soL (.listT a p1 p2) h.2 C.toCxF))
  | .asgL n (.lc e t it c sc2 own p2) p, X, W, sc, k, lm, h, C => by
    unfold okS okL at h
    simp only [Bool.and_eq_true, List.all_eq_true, decide_eq_true_eq, Bool.not_eq_true'] at h
    obtain ⟨h0, ⟨⟨⟨⟨⟨⟨⟨h1, h2⟩, h3⟩, h4⟩, h5⟩, h6⟩, h7⟩, h8⟩, h9⟩ := h
    obtain ⟨l1, l2⟩ := nmL_lk C h6
    refine q_setLc C.toCxG l1 l2 (sw_true (by rw [C.sc]; exact h7) l2 h8 h9) (by rw [C.N, C.sc]; exact blkOk_by h2) (soI it h1 C.toCxF) (fun s H C0 cl fp n hn => nmL_ok (C.toCxF.blk s H sc2 C0 cl fp) (h3 n hn).1) (fun n hn => (h3 n hn).2)
      (fun s H C0 cl fp => soOT c h4 (C.toCxF.blk s H sc2 C0 cl fp)) (fun s H C0 cl fp => soE e h5 (C.toCxF.blk s H sc2 C0 cl fp)) (fun x => it_st h1 _ x)
  | .par a b e f k1 k2 p1 p2 p, X, W, sc, k, lm, h, C => by
    unfold okS parOk at h
    simp only [Bool.and_eq_true, decide_eq_true_eq, Bool.not_eq_true'] at h
    obtain ⟨⟨⟨⟨⟨h1, h2⟩, h3⟩, ⟨⟨⟨⟨⟨⟨g1, g2⟩, g3⟩, g4⟩, g5⟩, g6⟩, g7⟩⟩, h5⟩, h6⟩ := h
    obtain ⟨a1, a2⟩ := nmL_lk C h1
    obtain ⟨b1, b2⟩ := nmL_lk C h2
    exact q_par C.toCxG a1 b1 h3 a2 b2 (sw_par (by rw [C.sc]; exact g7) a2 b2 g1 g2 g3 g4 g5 g6) (star_ex (ok_star h5) _ _) (star_ex (ok_star h6) _ _) (soE e h5 C.toCxF) (soE f h6 C.toCxF)
  | .aug o n e p, X, W, sc, k, lm, h, C => by
    unfold okS at h
    rw [Bool.and_eq_true] at h
    exact q_aug C.toCxG (nmS_ok C h.1) (soE e h.2 C.toCxF)
  | .setD o kk e p1 p, X, W, sc, k, lm, h, C => by
    unfold okS at h
    rw [Bool.and_eq_true, Bool.and_eq_true, Bool.and_eq_true] at h
    exact q_setD C.un (flat_sw h.2 _ _ _) (soE o h.1.1.1 C.toCxF) (soE kk h.1.1.2 C.toCxF) (soE e h.1.2 C.toCxF)
  | .setI o kk e p1 p, X, W, sc, k, lm, h, C => by
    unfold okS at h
    simp only [Bool.and_eq_true] at h
    obtain ⟨⟨⟨⟨h1, h2⟩, h3⟩, h4⟩, h5⟩ := h
    exact q_setI (sub_as h5) (flat_sw h4 _ _ _) (soE o h1 C.toCxF) (soE kk h2 C.toCxF) (soE e h3 C.toCxF)
  | .setA o f e p1 p, X, W, sc, k, lm, h, C => by
    unfold okS at h
    simp only [Bool.and_eq_true] at h
    exact q_setA C.av (attV_sw h.2 _ _ _) (soE o h.1.1 C.toCxF) (soE e h.1.2 C.toCxF)
  | .augA op a f e p1 p, X, W, sc, k, lm, h, C => by
    unfold okS at h
    simp only [Bool.and_eq_true] at h
    exact q_augA C.av (soE a h.1 C.toCxF) (soE e h.2 C.toCxF)
  | .parA o1 f1 o2 f2 e1 e2 k1 k2 q1 q2 p1 p2 p, X, W, sc, k, lm, h, C => by
    unfold okS at h
    simp only [Bool.and_eq_true] at h
    obtain ⟨⟨⟨h1, h2⟩, h3⟩, h4⟩ := h
    exact q_parA C.toCxG C.av (star_ex (ok_star h3) _ _) (star_ex (ok_star h4) _ _) (by rfl) sw_attr (soE o1 h1 C.toCxF) (soE o2 h2 C.toCxF) (soE e1 h3 C.toCxF) (soE e2 h4 C.toCxF)
  | .tri b g x o i xi pi j xj pj p1 v kk p2 p3 p4 p5 p6 p, X, W, sc, k, lm, h, C => by
    unfold okS at h
    simp only [Bool.and_eq_true, decide_eq_true_eq, ndB, Bool.not_eq_true'] at h
    obtain ⟨⟨⟨⟨⟨⟨⟨⟨h1, h2⟩, h3⟩, h4⟩, h5⟩, h6⟩, h7⟩, h8⟩, h9⟩ := h
    exact q_tri C.toCxG (C.tv g x h2) (C.toCxF.gl h3) C.st C.fr ⟨by rw [C.N]; exact h4, by rw [C.sc]; exact visB_of h5, h6⟩ ⟨by rw [C.N]; exact h7, by rw [C.sc]; exact visB_of h8, h9⟩ fun W' pn xe tk po => soSs b h1 (C.tr tk po)
  | .expr e p, X, W, sc, k, lm, h, C => by
    unfold okS at h
    rw [Bool.and_eq_true] at h
    exact q_expr (flat_sw h.2 _ _ _) (soE e h.1 C.toCxF)
  | .app o e p1 p2 p, X, W, sc, k, lm, h, C => by
    unfold okS at h
    rw [Bool.and_eq_true, Bool.and_eq_true, Bool.and_eq_true] at h
    exact q_app (recv_base h.1.2 _ _) (few_ok (ok_star h.1.1.2) _ _) h.2 (one_star (ok_star h.1.1.2) _) (soE o h.1.1.1 C.toCxF) (soE e h.1.1.2 C.toCxF)
  | .ifs c a b p, X, W, sc, k, lm, h, C => by
    unfold okS at h
    rw [Bool.and_eq_true, Bool.and_eq_true] at h
    exact q_if (soT c h.1.1 C.toCxF) (soSs a h.1.2 C) (soSs b h.2 C)
  | .forr t it b p, X, W, sc, k, lm, h, C => by
    unfold okS nmsS at h
    rw [Bool.and_eq_true, Bool.and_eq_true, List.all_eq_true] at h
    exact q_for C.s (soI it h.1.2 C.toCxF) (fun n hn => nmS_ok C (h.1.1 n hn)) (soSs b h.2 C) (fun x => it_st h.1.2 _ x)
  | .whil c b p, X, W, sc, k, lm, h, C => by
    unfold okS at h
    rw [Bool.and_eq_true] at h
    exact q_whil C.s P.wf (soT c h.1 C.toCxF) (soSs b h.2 C)
  | .ret e p, X, W, sc, k, lm, h, C => by
    unfold okS at h
    exact q_ret (soE e h C.toCxF)
  | .retN p, X, W, sc, k, lm, h, C => q_retN
  | .rais c x m j p1 p2 p3 p, X, W, sc, k, lm, h, C => by
    unfold okS at h
    rw [Bool.and_eq_true, decide_eq_true_eq] at h
    exact q_rais C.toCxG (C.xv c x h.1 m j p1 p2 p3 (C.toCxF.gl h.2))
  | .pas p, X, W, sc, k, lm, h, C => q_pas
  | .brk p, X, W, sc, k, lm, h, C => q_brk
  | .cont p, X, W, sc, k, lm, h, C => q_cont
theorem soSs : ∀ (s : Stms) {X : Cx} {W : WX} {sc : Scope} {k : Nat} {lm : Bool}, okSs S lm sc s = true → CxB X q W P S sc k lm → SSs X q W (s.ev P) s.py
  | .nil, X, W, sc, k, lm, h, C => ss_nil
  | .cons s r, X, W, sc, k, lm, h, C => by
    unfold okSs at h
    rw [Bool.and_eq_true] at h
    exact ss_cons (soS s h.1 C) (soSs r h.2 C)
end
end
end Lt
end
section
set_option Elab.async false
set_option linter.all false
set_option maxRecDepth 100000
set_option maxHeartbeats 1000000
/-! Lt: the defs, level by level. -/
namespace Lt
open PySem PySem.Spec PyProof.Rows L2
/-- a class's statements -/
def cBody : Stmt → List Stmt
  | .ClassDef _ _ _ b _ _ _ _ _ _ _ => b
  | _ => []
theorem lk_mem {α β : Type} [BEq α] [LawfulBEq α] {k : α} {v : β} : ∀ {l : List (α × β)}, l.lookup k = some v → (k, v) ∈ l
  | [], h => by cases h
  | (a, b) :: l, h => by
    rw [List.lookup_cons] at h
    cases q : k == a with
    | true =>
      rw [q] at h
      cases h
      have := beq_iff_eq.mp q
      subst this
      exact List.mem_cons_self
    | false => rw [q] at h; exact List.mem_cons_of_mem _ (lk_mem h)
def lamQ (x : Str) (sc : Scope) : Str := (envOfC x sc 0 0 .none).qual ++ "<lambda>"
section
variable {K : PySem.W.Frag} {m m2 m3 : Mp} {H H2 : Hp} {L : Nat}
/-- a value without references is one in any heap of the same tuples -/
theorem E.dats_none {e : E} {es : List E} (h : E.dats (e :: es) ≠ none) : e.dat ≠ none ∧ E.dats es ≠ none := by
  unfold E.dats at h
  cases q1 : e.dat with
  | none => rw [q1] at h; exact absurd rfl h
  | some d =>
    cases q2 : E.dats es with
    | none => rw [q1, q2] at h; exact absurd rfl h
    | some ds => exact ⟨fun z => (by cases z), fun z => (by cases z)⟩
mutual
theorem RV.free : ∀ {x : E} {v : V}, RV K m H x v → x.dat ≠ none → RV K m2 H x v
  | _, _, .non, _ => .non
  | _, _, .bl b, _ => .bl b
  | _, _, .int i, _ => .int i
  | _, _, .str x, _ => .str x
  | _, _, .tup h r, q => .tup h (RVs.free r fun z => q (by unfold E.dat; rw [z]; rfl))
  | _, _, .ref h, q => absurd (by unfold E.dat; rfl) q
theorem RVs.free : ∀ {x : List E} {v : List V}, RVs K m H x v → E.dats x ≠ none → RVs K m2 H x v
  | _, _, .nil, _ => .nil
  | _, _, .cons h r, q => .cons (RV.free h (E.dats_none q).1) (RVs.free r (E.dats_none q).2)
end
mutual
theorem RV.cutL (hm : ∀ n a, m n = some a → n < L) : ∀ {x : E} {v v2 : V}, RV K m H x v → RV K m2 H2 x v2 → RV K (fun n => if n < L then m2 n else none) H2 x v2
  | _, _, _, .non, .non => .non
  | _, _, _, .bl b, .bl _ => .bl b
  | _, _, _, .int i, .int _ => .int i
  | _, _, _, .str x, .str _ => .str x
  | _, _, _, .tup _ r, .tup h2 r2 => .tup h2 (RVs.cutL hm r r2)
  | _, _, _, .ref h, .ref h2 => .ref (by rw [if_pos (hm _ _ h)]; exact h2)
theorem RVs.cutL (hm : ∀ n a, m n = some a → n < L) : ∀ {x : List E} {v v2 : List V}, RVs K m H x v → RVs K m2 H2 x v2 → RVs K (fun n => if n < L then m2 n else none) H2 x v2
  | _, _, _, .nil, .nil => .nil
  | _, _, _, .cons h r, .cons h2 r2 => .cons (RV.cutL hm h h2) (RVs.cutL hm r r2)
end
theorem RKs.cutL (hm : ∀ n a, m n = some a → n < L) : ∀ {x : List (Str × E)} {v v2 : List (Key × V)}, RKs K m H x v → RKs K m2 H2 x v2 → RKs K (fun n => if n < L then m2 n else none) H2 x v2
  | _, _, _, .nil, .nil => .nil
  | _, _, _, .cons h r, .cons h2 r2 => .cons (RV.cutL hm h h2) (RKs.cutL hm r r2)
theorem RFs.cutL (hm : ∀ n a, m n = some a → n < L) : ∀ {x : List (Str × E)} {v v2 : List (Str × V)}, RFs K m H x v → RFs K m2 H2 x v2 → RFs K (fun n => if n < L then m2 n else none) H2 x v2
  | _, _, _, .nil, .nil => .nil
  | _, _, _, .cons h r, .cons h2 r2 => .cons (RV.cutL hm h h2) (RFs.cutL hm r r2)
theorem ObR.cutL {a a2 : Addr} {o : Ob} (hm : ∀ n a, m n = some a → n < L) (r : ObR K m H a o) (r2 : ObR K m2 H2 a2 o) : ObR K (fun n => if n < L then m2 n else none) H2 a2 o := by
  cases o with
  | lst es => obtain ⟨vs, _, x⟩ := r; obtain ⟨ws, e, y⟩ := r2; exact ⟨ws, e, RVs.cutL hm x y⟩
  | rol es => obtain ⟨vs, _, x⟩ := r; obtain ⟨ws, e, y⟩ := r2; exact ⟨ws, e, RVs.cutL hm x y⟩
  | dct kvs => obtain ⟨vs, _, x⟩ := r; obtain ⟨ws, e, y⟩ := r2; exact ⟨ws, e, RKs.cutL hm x y⟩
  | ins c fs => obtain ⟨dx, vs, _, x⟩ := r; obtain ⟨dy, ws, e, y⟩ := r2; exact ⟨dy, ws, e, RFs.cutL hm x y⟩
end
theorem take_get {G G' : Hq} (h : hqEqb (G'.take G.length) G = true) {n : Nat} {o : Ob} (hn : G[n]? = some o) : G'[n]? = some o := by
  have e := hqEqb_eq h
  rw [← e] at hn
  rw [List.getElem?_take] at hn
  split at hn
  · exact hn
  · cases hn
/-- a pure def's end -/
theorem pure_end {D : Wd} {W : WX} {σ : L2.St} {m : Mp} {H : Hp} {G G' : Hq} {v : E} {Q : V → Hp → Prop} {b : Bool} (M : MtG D m H G) (F : Fin D W σ m H (retP b G v G') (RV D.K) Q) :
    ∀ m' v' H', Ext m H m' H' → MtG D m' H' G' → RV D.K m' H' v v' → Q v' H' := by
  intro m' v' H' e M' r
  cases b with
  | false => exact F m' v' H' e M' r
  | true =>
    unfold retP at F
    rw [if_pos rfl] at F
    split at F
    · rename_i hc
      rw [Bool.and_eq_true] at hc
      refine F (fun n => if n < G.length then m' n else none) v' H' ?_ ?_ (RV.free r fun z => (by rw [z] at hc; cases hc.2))
      · refine ⟨fun n a h => ?_, e.stay, e.tups, fun n a h => ?_, e.there⟩
        · show (if n < G.length then m' n else none) = some a
          rw [if_pos (M.cod n a h)]
          exact e.mono n a h
        · by_cases hn : n < G.length
          · rw [show (if n < G.length then m' n else none) = m' n from if_pos hn] at h
            exact e.new n a h
          · rw [show (if n < G.length then m' n else none) = none from if_neg hn] at h
            cases h
      · refine ⟨fun n hn => ?_, fun n a h => ?_, fun n k a h1 h2 => ?_, fun n o a h1 h2 => ?_, M'.tab⟩
        · obtain ⟨a, ha⟩ := M.dom n hn
          exact ⟨a, by rw [if_pos hn]; exact e.mono n a ha⟩
        · by_cases hn : n < G.length
          · exact hn
          · rw [show (if n < G.length then m' n else none) = none from if_neg hn] at h
            cases h
        · have h1' : (if n < G.length then m' n else none) = some a := h1
          have h2' : (if k < G.length then m' k else none) = some a := h2
          split at h1' <;> first | cases h1' | skip
          split at h2' <;> first | cases h2' | skip
          exact M'.inj n k a (by assumption) (by assumption)
        · have hn : n < G.length := (List.getElem?_eq_some_iff.mp h1).1
          have h2' : (if n < G.length then m' n else none) = some a := h2
          rw [if_pos hn] at h2'
          obtain ⟨a0, ha0⟩ := M.dom n hn
          have o1 := M.obj n o a0 h1 ha0
          have o2 := M'.obj n o a (take_get hc.1 h1) h2'
          exact ObR.cutL M.cod o1 o2
    · exact F.elim
theorem MtE.start {K : PySem.W.Frag} {m : Mp} {H : Hp} {es : List E} {vs : List V} {N : List Str} {ns np : Nat} (r : RVs K m H es vs) (h1 : ns = N.length) (h2 : es.length = np) : MtE K m H (es.map some ++ List.replicate (ns - np) none) (L2.start N vs) := by
  refine ⟨?_, fun i e h => ?_⟩
  · unfold L2.start
    rw [List.length_append, List.length_append, List.length_map, List.length_map, List.length_replicate, List.length_replicate, h1, ← h2, r.length]
  · by_cases hi : i < es.length
    · rw [List.getElem?_append_left (by simpa using hi), List.getElem?_map] at h
      cases q : es[i]? with
      | none => rw [q] at h; cases h
      | some x =>
        rw [q] at h
        cases h
        obtain ⟨w, h1, h2⟩ := r.get q
        refine ⟨w, ?_, h2⟩
        unfold L2.start
        rw [List.getElem?_append_left (by rw [List.length_map, ← r.length]; exact hi), List.getElem?_map, h1]
        rfl
    · rw [List.getElem?_append_right (by simpa using hi), List.getElem?_replicate] at h
      split at h <;> cases h
/-! ### what the head tells -/
/-- names of a program -/
structure Pg extends Tb where
  gn : Nat → Option Str
  fn : Nat → Option (Str × Nat)
  rn : Nat → Option Str
  xn : Nat → Option Str
  tn : Nat → Option Str
def Pg.sg (G : Pg) (N : List Str) : Sg := ⟨N, G.gn, G.fn, G.rn, G.xn, G.tn⟩
def Pg.par (G : Pg) (n : Nat) : Par := G.toTb.par (callF G.toTb n)
/-- a def -/
def FnHyp (K : PySem.W.Frag) (mg : Str → Option Value) (base : Heap) (q : Wq) (G : Pg) (f : Nat) (x : Str) (np : Nat) : Prop :=
  ∃ (a : Addr) (fd : FuncData) (params : Arguments) (scope : Scope) (N ps : List Str) (fn : Fn) (lm : Bool),
    mg x = some (.ref a) ∧ FunD K x x params fn.body.py scope [] [] a fd ∧ L2.Binds K fd ps [] ∧ (x == ("__debug__" : Str)) = false ∧ FnScope N ps scope ∧ G.T f = some fn ∧ fn.np = np ∧ fn.ns = N.length ∧ ps.length = np ∧
    okSs (G.sg N) lm scope fn.body = true ∧
    (lm = true → ∃ c Pt, fd.code = .ref c ∧ LamX.TabB base mg c Pt ∧ (Pt, lamQ x scope) ∈ q.T ∧ ∀ p ∈ q.T, p.1 = Pt → p.2 = lamQ x scope)
/-- a method: its class's name, its own -/
def MtHyp (K : PySem.W.Frag) (mg : Str → Option Value) (base : Heap) (q : Wq) (G : Pg) (f : Nat) (c m : Str) (np : Nat) : Prop :=
  ∃ (fd : FuncData) (qn : Str) (params : Arguments) (scope : Scope) (N ps : List Str) (fn : Fn),
    FunD K m qn params fn.body.py scope [] [] (He.ma K (He.ga K c) m) fd ∧ L2.Binds K fd ps [] ∧ FnScope N ps scope ∧ G.T f = some fn ∧ fn.np = np ∧ fn.ns = N.length ∧ ps.length = np ∧
    okSs (G.sg N) false scope fn.body = true
structure PgHyp (K : PySem.W.Frag) (mg : Str → Option Value) (base : Heap) (q : Wq) (G : Pg) : Prop where
  bn : ∀ x ∈ bltN, mg x = none
  gv : ∀ j v x, G.gl j = some v → G.gn j = some x → ∃ u v', mg x = some u ∧ RelV v' u ∧ ∀ m H, RV K m H v v'
  xv : ∀ c x, G.xn c = some x → ∃ C, q.xc c = .ref C ∧ mg x = some (.ref C) ∧ PySem.W.excIn K C He.veBase "ValueError.__new__" = true ∧ PySem.W.keepIn K (.ref C) = true ∧ PySem.W.subIn K (.ref C) (.type "BaseException") = some true ∧ PySem.W.typeIn K (.ref C) = some (.type "type") ∧ (x == ("__debug__" : Str)) = false
  rv : ∀ g x, G.rn g = some x → RefF K mg q G.rf g x
  fv : ∀ f x np, G.fn f = some (x, np) → FnHyp K mg base q G f x np
  av : ∀ c f, G.av c f = true → Cls K (He.ga K c) ∧ NoAttr K (He.ga K c) f
  mv : ∀ c m f np, G.mv c m = some (f, np) → Cls K (He.ga K c) ∧ Meth K (He.ga K c) m (He.ma K (He.ga K c) m) ∧ MtHyp K mg base q G f c m np
  ci : ∀ c f np, G.ci c = some (f, np) → Mk K (He.ga K c) (He.ma K (He.ga K c) "__init__") ∧ mg c = some (.ref (He.ga K c)) ∧ (c == ("__debug__" : Str)) = false ∧ MtHyp K mg base q G f c "__init__" np
  tv : ∀ g x, G.tn g = some x → ∃ CS : Addr, mg x = some (.ref CS) ∧ (x == ("__debug__" : Str)) = false ∧ ∀ cc, G.tf g cc = true → PySem.W.exmOne K (q.xc cc) (.ref CS) = some true
section
variable {prog : Program} {w : World} {K : PySem.W.Frag} {mg : Str → Option Value} {base : Heap} {q : Wq} {G : Pg}
/-- what a level promises -/
def LevOk (prog : Program) (w : World) (K : PySem.W.Frag) (mg : Str → Option Value) (base : Heap) (q : Wq) (G : Pg) (n : Nat) : Prop := ∀ f x np, G.fn f = some (x, np) → ∃ a fd ps, mg x = some (.ref a) ∧ PySem.W.keepIn K (.ref a) = true ∧ L2.Binds K fd ps [] ∧ ps.length = np ∧ (x == ("__debug__" : Str)) = false ∧
    FnOk prog w K mg base (CX prog w) (4 * n) a fd ps (spF K q (G.par n) f np)
def LevMt (prog : Program) (w : World) (K : PySem.W.Frag) (mg : Str → Option Value) (base : Heap) (q : Wq) (G : Pg) (n : Nat) : Prop := ∀ f c m np, MtHyp K mg base q G f c m np → ∃ fd ps, L2.Binds K fd ps [] ∧ ps.length = np ∧ FnOk prog w K mg base (CX prog w) (4 * n) (He.ma K (He.ga K c) m) fd ps (spF K q (G.par n) f np)
theorem fn_step (hyp : PgHyp K mg base q G) {n : Nat} (ih : LevOk prog w K mg base q G n) (im : LevMt prog w K mg base q G n) {f : Nat} {x0 x : Str} {np : Nat} {a : Addr} {fd : FuncData} {params : Arguments} {scope : Scope} {N ps : List Str} {fn : Fn} {lm : Bool}
    (h2 : FunD K x0 x params fn.body.py scope [] [] a fd) (h5 : FnScope N ps scope) (h6 : G.T f = some fn) (h7 : fn.np = np) (h8 : fn.ns = N.length) (h9 : ps.length = np) (h10 : okSs (G.sg N) lm scope fn.body = true)
    (h11 : lm = true → ∃ c Pt, fd.code = .ref c ∧ LamX.TabB base mg c Pt ∧ (Pt, lamQ x scope) ∈ q.T ∧ ∀ p ∈ q.T, p.1 = Pt → p.2 = lamQ x scope) :
    FnOk prog w K mg base (CX prog w) (4 * (n + 1)) a fd ps (spF K q (G.par (n + 1)) f np) := by
  obtain ⟨oc, od, dV, kV, doc, pm, an, cdv, ct, osl, rfl, lk, hcd, _, _⟩ := h2.ex
  refine fn_of (k := 4 * n + 3) lk hcd h5 (fun vs H Q E hs => hs.1.trans h9.symm) fun A outer s H vs Q E hr hs => ?_
  obtain ⟨hl, m, es, G1, rvs, M, F⟩ := hs
  have C : CxB (cxOf (CX prog w) prog w K mg base N x scope a cdv A outer s H E) q (fun cls d _ H' => E cls d H') (G.par n) (G.sg N) scope (4 * n) lm := {
    calm := rfl
    nd := h5.nd
    tk := takes_of rfl rfl rfl rfl
    un := by
      have := hr.un
      show (A.deeper (envOfC x scope s.heap.objs.size a cdv)).units + 100 < cLine
      omega
    N := rfl
    sc := rfl
    rm := hr.mono (by omega)
    av := hyp.av
    mv := fun c m f np h => by
      obtain ⟨e1, e2, e3⟩ := hyp.mv c m f np h
      obtain ⟨fd, ps, e4, e5, e6⟩ := im f c m np e3
      exact ⟨fd, ps, e1, e2, e4, e5, e6⟩
    ci := fun c f np h => by
      obtain ⟨e1, e2, e3, e4⟩ := hyp.ci c f np h
      obtain ⟨fd, ps, e5, e6, e7⟩ := im f c _ np e4
      exact ⟨fd, ps, e1, e2, e3, e5, e6, e7⟩
    tv := hyp.tv
    st := rfl
    fr := rfl
    xk := hyp.xv
    bn := hyp.bn
    gv := hyp.gv
    fv := fun f x np h => ih f x np h
    lv := fun hlm => by
      obtain ⟨c, Pt, e1, e2, e3, e4⟩ := h11 hlm
      exact ⟨hr, ⟨c, Pt, e2, e1, e3, e4⟩, hyp.rv⟩
    po := passes_of rfl
    fnt := fun _ => rfl
    xv := fun c y hc mm j p p2 pos hg => by
      obtain ⟨C, e1, e2, e3, e4, e5, e6, e7⟩ := hyp.xv c y hc
      rw [e1]
      exact pmk_own PySem.F.excBase_ValueError e3 e2 e4 (raises_own e5 e6) hg e7 }
  have ME : MtE K m H (es.map some ++ List.replicate (fn.ns - fn.np) none) (L2.start N vs) := MtE.start rvs h8 (by rw [rvs.length, hl, h7])
  have key := soSs fn.body h10 C (es.map some ++ List.replicate (fn.ns - fn.np) none) G1 (L2.start N vs) H m { nx := fun _ H' => Q .non H', rt := Q } ME M
  unfold wSs at key
  refine key ?_
  have F2 : Fin ⟨K, q.T, q.xc⟩ (fun cls d _ H' => E cls d H') [] m H (endR fn.pure G1 (fn.body.ev (G.par n) (es.map some ++ List.replicate (fn.ns - fn.np) none) G1)) (RV K) Q := by
    have : callF G.toTb (n + 1) f es G1 = endR fn.pure G1 (fn.body.ev (G.par n) (es.map some ++ List.replicate (fn.ns - fn.np) none) G1) := by
      show (match G.T f with | some fn => _ | none => _) = _
      rw [h6]
      show (if es.length = fn.np then _ else _) = _
      rw [if_pos (by rw [rvs.length, hl, h7])]
      rfl
    rw [← this]
    exact F
  generalize hr0 : fn.body.ev (G.par n) (es.map some ++ List.replicate (fn.ns - fn.np) none) G1 = r at F2 ⊢
  cases r with
  | nx ρ' G' => exact fun m' σ' H' e' M' N' => pure_end M F2 m' .non H' e' M' .non
  | rt v G' => exact pure_end M F2
  | bk ρ' G' => exact F2.elim
  | ct ρ' G' => exact F2.elim
  | ex c ρ' G' => exact fun m' σ' H' d e' M' N' => F2 m' H' d e' M'
  | bad => exact F2.elim
theorem fns_both (hyp : PgHyp K mg base q G) : ∀ n, LevOk prog w K mg base q G n ∧ LevMt prog w K mg base q G n
  | 0 => by
    constructor
    · intro f x np h
      obtain ⟨a, fd, params, scope, N, ps, fn, lm, h1, h2, h3, h4, h5, h6, h7, h8, h9, h10, h11⟩ := hyp.fv f x np h
      exact ⟨a, fd, ps, h1, h2.kp, h3, h9, h4, fun vs H Q E hs => hs.1.trans h9.symm, fun A outer s H args us vs Q E hr e0 hb r hs => by
        obtain ⟨_, m, es, G1, _, _, F⟩ := hs
        exact F.elim⟩
    · intro f c m np h
      obtain ⟨fd, qn, params, scope, N, ps, fn, h2, h3, h5, h6, h7, h8, h9, h10⟩ := h
      exact ⟨fd, ps, h3, h9, fun vs H Q E hs => hs.1.trans h9.symm, fun A outer s H args us vs Q E hr e0 hb r hs => by
        obtain ⟨_, m, es, G1, _, _, F⟩ := hs
        exact F.elim⟩
  | n + 1 => by
    obtain ⟨ih, im⟩ := fns_both hyp n
    constructor
    · intro f x np h
      obtain ⟨a, fd, params, scope, N, ps, fn, lm, h1, h2, h3, h4, h5, h6, h7, h8, h9, h10, h11⟩ := hyp.fv f x np h
      exact ⟨a, fd, ps, h1, h2.kp, h3, h9, h4, fn_step hyp ih im h2 h5 h6 h7 h8 h9 h10 h11⟩
    · intro f c m np h
      obtain ⟨fd, qn, params, scope, N, ps, fn, h2, h3, h5, h6, h7, h8, h9, h10⟩ := h
      exact ⟨fd, ps, h3, h9, fn_step (lm := false) hyp ih im h2 h5 h6 h7 h8 h9 h10 (fun z => nomatch z)⟩
/-- the law -/
theorem law_at {l : PySem.W.OpenLaw} {w : World} {n k fL : Nat} {x lx : Str} {fa : Addr} {h : Heap} {cs : List (Addr × Addr)} {fd : FuncData} {params : Arguments} {scope : Scope} {N : List Str} {fn : Fn} {lm : Bool}
    (hyp : ∀ base : Heap, K.In base → base.Ns mainGlobals mg → (∀ p ∈ cs, LamX.TabB base mg p.1 p.2) → PgHyp K mg base q G)
    (c1 : ∀ p ∈ cs, h.get? p.2 = some { cls := .none, data := .fields #[] }) (c2 : ∀ p ∈ cs, K.lookup p.2 = none) (c3 : ∀ p ∈ cs, PySem.W.CodeHd h p.1 p.2) (hq : ∀ t ∈ q.T, ∃ p ∈ cs, p.2 = t.1)
    (hb : ∀ (s : Shared) (u : Value), BindsTo s fd ⟨[u], []⟩ [(x, u)]) (hnl : ∀ a o, K.lookup a = some o → o.cls ≠ .type "list")
    (h2 : FunD K lx lx params fn.body.py scope [] [] fa fd) (h5 : FnScope N [x] scope) (h6 : G.T fL = some fn) (h7 : fn.np = 1) (h8 : fn.ns = N.length) (h10 : okSs (G.sg N) lm scope fn.body = true)
    (h11 : ∀ base : Heap, (∀ p ∈ cs, LamX.TabB base mg p.1 p.2) → lm = true → ∃ c Pt, fd.code = .ref c ∧ LamX.TabB base mg c Pt ∧ (Pt, lamQ lx scope) ∈ q.T ∧ ∀ p ∈ q.T, p.1 = Pt → p.2 = lamQ lx scope)
    (hlaw : ∀ ns : List Int, ns.length ≤ n → (∀ z ∈ ns, Builtin.Int.intBits z ≤ 1048576) → ∃ G', callF G.toTb (k + 1) fL [.ref 0] [.rol (ns.map E.int)] = .ok (.bl true) G') :
    LamX.LawAtS l w K (CX l.prog w) (4 * (k + 1)) n x mg fa h := by
  refine ⟨fd, cs, spF K q (G.par (k + 1)) fL 1, c1, c2, c3, hb, fun H a ns hl hbits hT hS => ?_, fun base KX GX TB => fn_step (hyp base KX GX TB) (fns_both (hyp base KX GX TB) k).1 (fns_both (hyp base KX GX TB) k).2 h2 h5 h6 h7 h8 rfl h10 (h11 base TB)⟩
  have hS : Rd H a (.lst (ns.map V.int)) := by
    rcases hS with hS | ⟨o, its, nn, e1, e2, _⟩
    · exact hS
    · exact absurd e2 (hnl a o e1)
  obtain ⟨G', hG⟩ := hlaw ns hl hbits
  have rints : ∀ (m : Mp) (l : List Int), RVs K m H (l.map E.int) (l.map V.int) := fun m l => by
    induction l with
    | nil => exact .nil
    | cons z l ih => exact .cons (.int z) ih
  refine ⟨rfl, fun n => if n = 0 then some a else none, [.ref 0], [.rol (ns.map E.int)], .cons (.ref rfl) .nil, ?_, ?_⟩
  · refine ⟨fun n hn => ⟨a, if_pos (by simpa using hn)⟩, fun n b h => ?_, fun i j b h1 h2 => ?_, fun n o b h1 h2 => ?_, fun t ht => ?_⟩
    · by_cases e : n = 0
      · subst e; simp
      · rw [show (if n = 0 then some a else none) = none from if_neg e] at h; cases h
    · by_cases e : i = 0
      · by_cases e2 : j = 0
        · omega
        · rw [show (if j = 0 then some a else none) = none from if_neg e2] at h2; cases h2
      · rw [show (if i = 0 then some a else none) = none from if_neg e] at h1; cases h1
    · by_cases e : n = 0
      · subst e
        cases h1
        have eb : a = b := by simpa using h2
        subst eb
        exact ⟨_, hS, rints _ ns⟩
      · rw [show (if n = 0 then some a else none) = none from if_neg e] at h2; cases h2
    · obtain ⟨p, hp, e⟩ := hq t ht
      exact LamX.TabS.nil (by rw [← e]; exact hT p hp)
  · show Fin _ _ _ _ _ (callF G.toTb (k + 1) fL [.ref 0] [.rol (ns.map E.int)]) _ _
    rw [hG]
    intro m' v' H' _ _ r
    cases r
    rfl
end
end Lt
end
section
set_option Elab.async false
set_option linter.all false
set_option maxRecDepth 100000
/-! Lt: how its meaning is worked out: rewriting rules. -/
namespace Lt
open PySem L2
section
variable {P : Par} {ρ : Ro} {H : Hq}
@[simp] theorem v_var {i : Nat} {v : E} (h : ρ[i]? = some (some v)) : sVar i ρ H = .ok v H := by simp only [sVar, h]
@[simp] theorem v_c {v : E} : sC v ρ H = .ok v H := rfl
@[simp] theorem v_bin {o : BOp} {a b : Sx E} : sBin o a b ρ H = (a ρ H).bind fun x G1 => (b ρ G1).bind fun y G2 => optR (binop o x y) G2 := rfl
@[simp] theorem v_cmp {o : COp} {a b : Sx E} : sCmp o a b ρ H = (a ρ H).bind fun x G1 => (b ρ G1).bind fun y G2 => optR (cmpop o x y) G2 := rfl
@[simp] theorem v_bl {a : Sx Bool} : sBl a ρ H = (a ρ H).bind fun b G1 => .ok (.bl b) G1 := rfl
@[simp] theorem v_isN {a : Sx E} : sIsN a ρ H = (a ρ H).bind fun x G1 => .ok (isNon x) G1 := rfl
@[simp] theorem v_ntN {a : Sx E} : sNtN a ρ H = (a ρ H).bind fun x G1 => .ok (!isNon x) G1 := rfl
@[simp] theorem v_not {a : Sx Bool} : sNot a ρ H = (a ρ H).bind fun b G1 => .ok (!b) G1 := rfl
@[simp] theorem v_tru {a : Sx E} : sTru a ρ H = (a ρ H).bind fun x G1 => optR (truthy x) G1 := rfl
@[simp] theorem v_asB {a : Sx E} : sAsB a ρ H = (a ρ H).bind fun x G1 => optR (asB x) G1 := rfl
@[simp] theorem v_and {a b : Sx Bool} : sAnd a b ρ H = (a ρ H).bind fun x G1 => if x then b ρ G1 else .ok false G1 := rfl
@[simp] theorem v_or {a b : Sx Bool} : sOr a b ρ H = (a ρ H).bind fun x G1 => if x then .ok true G1 else b ρ G1 := rfl
@[simp] theorem v_if {c : Sx Bool} {a b : Sx E} : sIf c a b ρ H = (c ρ H).bind fun x G1 => if x then a ρ G1 else b ρ G1 := rfl
@[simp] theorem v_tup {a : Sx (List E)} : sTup a ρ H = (a ρ H).bind fun xs G1 => if xs.length ≤ sizeLine then .ok (.tup xs) G1 else .bad := rfl
@[simp] theorem v_nil : sNil ρ H = .ok [] H := rfl
@[simp] theorem v_cons {a : Sx E} {r : Sx (List E)} : sCons a r ρ H = (a ρ H).bind fun x G1 => (r ρ G1).bind fun xs G2 => .ok (x :: xs) G2 := rfl
@[simp] theorem v_sub {a i : Sx E} : sSub a i ρ H = (a ρ H).bind fun x G1 => (i ρ G1).bind fun y G2 => optR (subE G2 x y) G2 := rfl
@[simp] theorem v_onone : sOnone ρ H = .ok none H := rfl
@[simp] theorem v_osome {a : Sx E} : sOsome a ρ H = (a ρ H).bind fun x G1 => match x with
  | .int i => .ok (some i) G1
  | _ => .bad := rfl
@[simp] theorem v_slice {a : Sx E} {lo hi : Sx (Option Int)} : sSlice a lo hi ρ H = (a ρ H).bind fun x G1 => (lo ρ G1).bind fun l G2 => (hi ρ G2).bind fun h G3 => optR (cutE l h x) G3 := rfl
@[simp] theorem v_call {f : Nat} {a : Sx (List E)} : sCall P f a ρ H = (a ρ H).bind fun xs G1 => P.cl f xs G1 := rfl
@[simp] theorem v_glb {j : Nat} : sGlb P j ρ H = optR (P.gl j) H := rfl
@[simp] theorem v_ofE {a : Sx E} : sOfE a ρ H = (a ρ H).bind fun x G1 => match x with
  | .ref n => if (LH.get G1 (.pl n)).isSome then .ok (.pl n) G1 else .bad
  | _ => .bad := rfl
@[simp] theorem v_disp {a : Sx (List E)} : sDisp a ρ H = (a ρ H).bind fun xs G1 => if xs.length ≤ sizeLine then .ok (.tmp xs) G1 else .bad := rfl
@[simp] theorem v_cat {a b : Sx LH} : sCat a b ρ H = (a ρ H).bind fun x G1 => (b ρ G1).bind fun y G2 => (optR (x.getM G2) G2).bind fun xs _ => (optR (y.getM G2) G2).bind fun ys _ => if xs.length + ys.length ≤ sizeLine then .ok (.tmp (xs ++ ys)) G2 else .bad := rfl
@[simp] theorem v_bi1 {b : B1} {a : Sx E} : sBi1 b a ρ H = (a ρ H).bind fun x G1 => optR (bi1E G1 b x) G1 := rfl
@[simp] theorem v_biL {b : BL} {l : Sx LH} : sBiL b l ρ H = (l ρ H).bind fun x G1 => (optR (x.get G1) G1).bind fun xs _ => optR (biLE b xs) G1 := rfl
@[simp] theorem v_isi {t : TyN} {a : Sx E} : sIsi t a ρ H = (a ρ H).bind fun x G1 => (optR (isiE t x) G1).bind fun b _ => .ok (.bl b) G1 := rfl
@[simp] theorem v_inS {a b : Sx E} : sInS a b ρ H = (a ρ H).bind fun x G1 => (b ρ G1).bind fun y G2 => optR (inSE x y) G2 := rfl
@[simp] theorem v_sidx {a b : Sx E} : sSidx a b ρ H = (a ρ H).bind fun x G1 => match x with
  | .str z => (b ρ G1).bind fun y G2 => optR (sidxE (.str z) y) G2
  | _ => .bad := rfl
@[simp] theorem v_join {a : Sx E} {l : Sx LH} : sJoin a l ρ H = (a ρ H).bind fun x G1 => match x with
  | .str z => (l ρ G1).bind fun y G2 => (optR (y.get G2) G2).bind fun xs _ => optR (joinE (.str z) xs) G2
  | _ => .bad := rfl
@[simp] theorem v_subL {l : Sx LH} {i : Sx E} : sSubL l i ρ H = (l ρ H).bind fun x G1 => (i ρ G1).bind fun y G2 => (optR (x.get G2) G2).bind fun xs _ => (optR (intE y) G2).bind fun j _ => optR (atI xs j) G2 := rfl
@[simp] theorem v_new {l : Sx LH} : sNew l ρ H = (l ρ H).bind fun x G1 => match x with
  | .tmp xs => .ok (.ref G1.length) (G1 ++ [.lst xs])
  | .pl _ => .bad := rfl
@[simp] theorem v_dct {ks : List Str} {a : Sx (List E)} : sDct ks a ρ H = (a ρ H).bind fun xs G1 => if decide (ks.length = xs.length) && decide (ks ≠ []) && decide (ks.length ≤ 15) && decide ks.Nodup then .ok (.ref G1.length) (G1 ++ [.dct (ks.zip xs)]) else .bad := rfl
@[simp] theorem v_lenSet {a : Sx E} : sLenSet a ρ H = (a ρ H).bind fun x G1 => optR (lenSetE x) G1 := rfl
@[simp] theorem v_yes : sYes ρ H = .ok true H := rfl
@[simp] theorem v_itL {l : Sx LH} : sItL l ρ H = (l ρ H).bind fun x G1 => (optR (x.get G1) G1).bind fun xs _ => .ok (xs, match x with | .tmp _ => none | .pl n => some n) G1 := rfl
@[simp] theorem v_itA {a : Sx E} : sItA a ρ H = (a ρ H).bind fun x G1 => optR (itE G1 x) G1 := rfl
@[simp] theorem v_itR1 {a : Sx E} : sItR1 a ρ H = (a ρ H).bind fun x G1 => (optR (intE x) G1).bind fun j _ => if in62 j then .ok (rng 0 j.toNat, none) G1 else .bad := rfl
@[simp] theorem v_itR2 {a b : Sx E} : sItR2 a b ρ H = (a ρ H).bind fun x G1 => (b ρ G1).bind fun y G2 => (optR (intE x) G2).bind fun i _ => (optR (intE y) G2).bind fun j _ => if in62 i && in62 j then .ok (rng i (j - i).toNat, none) G2 else .bad := rfl
@[simp] theorem v_lc {it : Sx (List E × Option Nat)} {tg : Tg} {c : Sx Bool} {e : Sx E} {own : List Nat} : sLc it tg c e own ρ H = (it ρ H).bind fun xs G1 => (lcS xs.2 xs.1 tg c e (wipeR ρ own) xs.1 [] G1).bind fun ys G2 => .ok (.tmp ys) G2 := rfl
/-! statements -/
@[simp] theorem q_v_asg {t : Tg} {e : Sx E} : qAsg t e ρ H = (e ρ H).st ρ fun v G1 => match t.set v ρ with
  | some ρ1 => .nx ρ1 G1
  | none => .bad := rfl
@[simp] theorem q_v_par {i j : Nat} {a b : Sx E} : qPar i j a b ρ H = (a ρ H).st ρ fun v G1 => (b ρ G1).st ρ fun w G2 => .nx ((ρ.set i (some v)).set j (some w)) G2 := rfl
theorem q_v_aug {o : BOp} {i : Nat} {e : Sx E} {x : E} (h : ρ[i]? = some (some x)) : qAug o i e ρ H = (e ρ H).st ρ fun y G1 => match augop o x y with
    | some z => .nx (ρ.set i (some z)) G1
    | none => .bad := by
  unfold qAug
  rw [h]
  all_goals rfl
@[simp] theorem q_v_setD {o k e : Sx E} : qSetD o k e ρ H = (e ρ H).st ρ fun v G1 => (o ρ G1).st ρ fun x G2 => (k ρ G2).st ρ fun y G3 => match x, y with
  | .ref n, .str s => (match G3[n]? with
    | some (.dct kvs) => if kvs.length < sizeLine then .nx ρ (G3.set n (.dct (putS kvs s v))) else .bad
    | _ => .bad)
  | _, _ => .bad := rfl
@[simp] theorem q_v_expr {e : Sx E} : qExpr e ρ H = (e ρ H).st ρ fun _ G1 => .nx ρ G1 := rfl
@[simp] theorem q_v_app {o e : Sx E} : qApp o e ρ H = (o ρ H).st ρ fun x G1 => match x with
  | .ref n => if (LH.get G1 (.pl n)).isSome then ((e ρ G1).st ρ fun v G2 => match G2[n]? with
    | some (.lst xs) => if xs.length < sizeLine then .nx ρ (G2.set n (.lst (xs ++ [v]))) else .bad
    | _ => .bad) else .bad
  | _ => .bad := rfl
@[simp] theorem q_v_if {c : Sx Bool} {a b : Ss} : qIf c a b ρ H = (c ρ H).st ρ fun x G1 => if x then a ρ G1 else b ρ G1 := rfl
@[simp] theorem q_v_for {tg : Tg} {it : Sx (List E × Option Nat)} {b : Ss} : qFor tg it b ρ H = (it ρ H).st ρ fun xs G1 => forS xs.2 xs.1 tg b xs.1 ρ G1 := rfl
@[simp] theorem q_v_ret {e : Sx E} : qRet e ρ H = (e ρ H).st ρ fun v G1 => .rt v G1 := rfl
/-! operators -/
@[simp] theorem o_add {i j : Int} : binop .add (.int i) (.int j) = some (.int (i + j)) := rfl
@[simp] theorem o_sub {i j : Int} : binop .sub (.int i) (.int j) = some (.int (i - j)) := rfl
theorem o_mul {i j : Int} (h : mulOk i j = true) : binop .mul (.int i) (.int j) = some (.int (i * j)) := if_pos h
theorem o_mod {i j : Int} (h : 0 < j) : binop .mod (.int i) (.int j) = some (.int (i % j)) := by
  show (if j ≠ 0 then some (E.int (i.fmod j)) else none) = _
  rw [if_pos (by omega), Int.fmod_eq_emod_of_nonneg _ (by omega)]
theorem o_fdiv {i j : Int} (h : 0 < j) (h2 : j < 1073741824) : binop .fdiv (.int i) (.int j) = some (.int (i / j)) := by
  show (if j ≠ 0 ∧ j.natAbs < 1073741824 then some (E.int (i.fdiv j)) else none) = _
  rw [if_pos ⟨by omega, by omega⟩, Int.fdiv_eq_ediv_of_nonneg _ (by omega)]
theorem o_addT {xs ys : List E} (h : xs.length + ys.length ≤ 16777216) : binop .add (.tup xs) (.tup ys) = some (.tup (xs ++ ys)) := by
  show (if xs.length + ys.length ≤ sizeLine then some (E.tup (xs ++ ys)) else none) = _
  rw [if_pos (by rw [sizeLine_eq]; exact h)]
theorem o_mulT {xs : List E} {k : Int} (h : xs ≠ [] ∧ 2 ≤ k ∧ k ≤ 10000 ∧ xs.length ≤ 1000) : binop .mul (.tup xs) (.int k) = some (.tup (List.replicate k.toNat xs).flatten) := if_pos h
@[simp] theorem c_lt {i j : Int} : cmpop .lt (.int i) (.int j) = some (decide (i < j)) := rfl
@[simp] theorem c_le {i j : Int} : cmpop .le (.int i) (.int j) = some (decide (i ≤ j)) := rfl
@[simp] theorem c_gt {i j : Int} : cmpop .gt (.int i) (.int j) = some (decide (i > j)) := rfl
@[simp] theorem c_ge {i j : Int} : cmpop .ge (.int i) (.int j) = some (decide (i ≥ j)) := rfl
theorem c_eqI {i j : Int} : cmpop .eq (.int i) (.int j) = some (decide (i = j)) := by
  show eqE (.int i) (.int j) = _
  unfold eqE
  simp only [E.dat]
  rw [if_pos (.inl (by show (0 : Nat) ≤ 64; omega))]
  rfl
@[simp] theorem a_add {i j : Int} : augop .add (.int i) (.int j) = some (.int (i + j)) := rfl
theorem a_mul {i j : Int} (h : mulOk i j = true) : augop .mul (.int i) (.int j) = some (.int (i * j)) := if_pos h
theorem a_fdiv {i j : Int} (h : 0 < j) (h2 : j < 1073741824) : augop .fdiv (.int i) (.int j) = some (.int (i / j)) := if_pos ⟨h, h2⟩
/-! heaps -/
theorem get_new {H : Hq} {o : Ob} : (H ++ [o])[H.length]? = some o := by simp
theorem set_new {H : Hq} {o u : Ob} : (H ++ [o]).set H.length u = H ++ [u] := by simp
theorem getL_new {H : Hq} {xs : List E} : LH.get (H ++ [.lst xs]) (.pl H.length) = some xs := by simp [LH.get]
theorem getM_new {H : Hq} {xs : List E} : LH.getM (H ++ [.lst xs]) (.pl H.length) = some xs := by simp [LH.getM]
@[simp] theorem getL_tmp {H : Hq} {xs : List E} : LH.get H (.tmp xs) = some xs := rfl
@[simp] theorem getM_tmp {H : Hq} {xs : List E} : LH.getM H (.tmp xs) = some xs := rfl
end
/-! data that equal themselves -/
mutual
theorem eqv_self : ∀ {x : E} {d : PyData}, x.dat = some d → PyData.eqv d d = true
  | .non, _, h => by cases h; rfl
  | .bl b, _, h => by cases h; show (b == b) = true; simp
  | .int i, _, h => by cases h; show (i == i) = true; simp
  | .str z, _, h => by cases h; show (z == z) = true; simp
  | .tup es, d, h => by
    unfold E.dat at h
    cases q : E.dats es with
    | none => rw [q] at h; cases h
    | some ds =>
      rw [q] at h
      cases h
      exact eqvs_self q
  | .ref _, _, h => by cases h
theorem eqvs_self : ∀ {x : List E} {ds : List PyData}, E.dats x = some ds → PyData.eqvAll ds ds = true
  | [], _, h => by cases h; rfl
  | e :: es, _, h => by
    unfold E.dats at h
    cases q : e.dat with
    | none => rw [q] at h; cases h
    | some d =>
      rw [q] at h
      cases q2 : E.dats es with
      | none => rw [q2] at h; cases h
      | some ds =>
        rw [q2] at h
        cases h
        show (PyData.eqv d d && PyData.eqvAll ds ds) = true
        rw [eqv_self q, eqvs_self q2]
        rfl
end
mutual
/-- how deep -/
def E.dep : E → Nat
  | .tup es => E.deps es + 1
  | _ => 0
def E.deps : List E → Nat
  | [] => 0
  | e :: r => max e.dep (E.deps r)
end
mutual
theorem dep_dat : ∀ {x : E} {d : PyData}, x.dat = some d → d.depth = x.dep
  | .non, _, h => by cases h; rfl
  | .bl b, _, h => by cases h; rfl
  | .int i, _, h => by cases h; rfl
  | .str z, _, h => by cases h; rfl
  | .tup es, d, h => by
    unfold E.dat at h
    cases q : E.dats es with
    | none => rw [q] at h; cases h
    | some ds =>
      rw [q] at h
      cases h
      show PyData.depthAll ds + 1 = E.deps es + 1
      rw [deps_dat q]
  | .ref _, _, h => by cases h
theorem deps_dat : ∀ {x : List E} {ds : List PyData}, E.dats x = some ds → PyData.depthAll ds = E.deps x
  | [], _, h => by cases h; rfl
  | e :: es, _, h => by
    unfold E.dats at h
    cases q : e.dat with
    | none => rw [q] at h; cases h
    | some d =>
      rw [q] at h
      cases q2 : E.dats es with
      | none => rw [q2] at h; cases h
      | some ds =>
        rw [q2] at h
        cases h
        show max (PyData.depth d) (PyData.depthAll ds) = max e.dep (E.deps es)
        rw [dep_dat q, deps_dat q2]
end
theorem eqE_self {x : E} (h : x.dat.isSome = true) (hd : x.dep ≤ 64) : eqE x x = some true := by
  obtain ⟨d, e⟩ := Option.isSome_iff_exists.mp h
  unfold eqE
  rw [e]
  simp only []
  rw [if_pos (.inl (by rw [dep_dat e]; exact hd)), eqv_self e]
theorem ne_self {x : E} (h : x.dat.isSome = true) (hd : x.dep ≤ 64) : cmpop .ne x x = some false := by
  show (eqE x x).map (!·) = _
  rw [eqE_self h hd]
  rfl
theorem c_neI {i j : Int} : cmpop .ne (.int i) (.int j) = some (!decide (i = j)) := by
  show (eqE (.int i) (.int j)).map (!·) = _
  have := c_eqI (i := i) (j := j)
  rw [show eqE (.int i) (.int j) = cmpop .eq (.int i) (.int j) from rfl, this]
  rfl
/-! slots -/
section
variable {H : Hq}
theorem w0 {v : E} {l : Ro} : sVar 0 (some v :: l) H = .ok v H := rfl
theorem z0 {b v : Option E} {l : Ro} : List.set (b :: l) 0 v = v :: l := rfl
theorem y0 {b : Option E} {l : Ro} : (b :: l)[0]? = some b := rfl
theorem x0 {v : E} {l : Ro} {o : BOp} {e : Sx E} : qAug o 0 e (some v :: l) H = (e (some v :: l) H).st (some v :: l) fun y G1 => match augop o v y with
    | some z => .nx (some z :: l) G1
    | none => .bad := rfl
theorem w1 {a0 : Option E} {v : E} {l : Ro} : sVar 1 (a0 :: some v :: l) H = .ok v H := rfl
theorem z1 {a0 : Option E} {b v : Option E} {l : Ro} : List.set (a0 :: b :: l) 1 v = a0 :: v :: l := rfl
theorem y1 {a0 : Option E} {b : Option E} {l : Ro} : (a0 :: b :: l)[1]? = some b := rfl
theorem x1 {a0 : Option E} {v : E} {l : Ro} {o : BOp} {e : Sx E} : qAug o 1 e (a0 :: some v :: l) H = (e (a0 :: some v :: l) H).st (a0 :: some v :: l) fun y G1 => match augop o v y with
    | some z => .nx (a0 :: some z :: l) G1
    | none => .bad := rfl
theorem w2 {a0 a1 : Option E} {v : E} {l : Ro} : sVar 2 (a0 :: a1 :: some v :: l) H = .ok v H := rfl
theorem z2 {a0 a1 : Option E} {b v : Option E} {l : Ro} : List.set (a0 :: a1 :: b :: l) 2 v = a0 :: a1 :: v :: l := rfl
theorem y2 {a0 a1 : Option E} {b : Option E} {l : Ro} : (a0 :: a1 :: b :: l)[2]? = some b := rfl
theorem x2 {a0 a1 : Option E} {v : E} {l : Ro} {o : BOp} {e : Sx E} : qAug o 2 e (a0 :: a1 :: some v :: l) H = (e (a0 :: a1 :: some v :: l) H).st (a0 :: a1 :: some v :: l) fun y G1 => match augop o v y with
    | some z => .nx (a0 :: a1 :: some z :: l) G1
    | none => .bad := rfl
theorem w3 {a0 a1 a2 : Option E} {v : E} {l : Ro} : sVar 3 (a0 :: a1 :: a2 :: some v :: l) H = .ok v H := rfl
theorem z3 {a0 a1 a2 : Option E} {b v : Option E} {l : Ro} : List.set (a0 :: a1 :: a2 :: b :: l) 3 v = a0 :: a1 :: a2 :: v :: l := rfl
theorem y3 {a0 a1 a2 : Option E} {b : Option E} {l : Ro} : (a0 :: a1 :: a2 :: b :: l)[3]? = some b := rfl
theorem x3 {a0 a1 a2 : Option E} {v : E} {l : Ro} {o : BOp} {e : Sx E} : qAug o 3 e (a0 :: a1 :: a2 :: some v :: l) H = (e (a0 :: a1 :: a2 :: some v :: l) H).st (a0 :: a1 :: a2 :: some v :: l) fun y G1 => match augop o v y with
    | some z => .nx (a0 :: a1 :: a2 :: some z :: l) G1
    | none => .bad := rfl
theorem w4 {a0 a1 a2 a3 : Option E} {v : E} {l : Ro} : sVar 4 (a0 :: a1 :: a2 :: a3 :: some v :: l) H = .ok v H := rfl
theorem z4 {a0 a1 a2 a3 : Option E} {b v : Option E} {l : Ro} : List.set (a0 :: a1 :: a2 :: a3 :: b :: l) 4 v = a0 :: a1 :: a2 :: a3 :: v :: l := rfl
theorem y4 {a0 a1 a2 a3 : Option E} {b : Option E} {l : Ro} : (a0 :: a1 :: a2 :: a3 :: b :: l)[4]? = some b := rfl
theorem x4 {a0 a1 a2 a3 : Option E} {v : E} {l : Ro} {o : BOp} {e : Sx E} : qAug o 4 e (a0 :: a1 :: a2 :: a3 :: some v :: l) H = (e (a0 :: a1 :: a2 :: a3 :: some v :: l) H).st (a0 :: a1 :: a2 :: a3 :: some v :: l) fun y G1 => match augop o v y with
    | some z => .nx (a0 :: a1 :: a2 :: a3 :: some z :: l) G1
    | none => .bad := rfl
theorem w5 {a0 a1 a2 a3 a4 : Option E} {v : E} {l : Ro} : sVar 5 (a0 :: a1 :: a2 :: a3 :: a4 :: some v :: l) H = .ok v H := rfl
theorem z5 {a0 a1 a2 a3 a4 : Option E} {b v : Option E} {l : Ro} : List.set (a0 :: a1 :: a2 :: a3 :: a4 :: b :: l) 5 v = a0 :: a1 :: a2 :: a3 :: a4 :: v :: l := rfl
theorem y5 {a0 a1 a2 a3 a4 : Option E} {b : Option E} {l : Ro} : (a0 :: a1 :: a2 :: a3 :: a4 :: b :: l)[5]? = some b := rfl
theorem x5 {a0 a1 a2 a3 a4 : Option E} {v : E} {l : Ro} {o : BOp} {e : Sx E} : qAug o 5 e (a0 :: a1 :: a2 :: a3 :: a4 :: some v :: l) H = (e (a0 :: a1 :: a2 :: a3 :: a4 :: some v :: l) H).st (a0 :: a1 :: a2 :: a3 :: a4 :: some v :: l) fun y G1 => match augop o v y with
    | some z => .nx (a0 :: a1 :: a2 :: a3 :: a4 :: some z :: l) G1
    | none => .bad := rfl
theorem w6 {a0 a1 a2 a3 a4 a5 : Option E} {v : E} {l : Ro} : sVar 6 (a0 :: a1 :: a2 :: a3 :: a4 :: a5 :: some v :: l) H = .ok v H := rfl
theorem z6 {a0 a1 a2 a3 a4 a5 : Option E} {b v : Option E} {l : Ro} : List.set (a0 :: a1 :: a2 :: a3 :: a4 :: a5 :: b :: l) 6 v = a0 :: a1 :: a2 :: a3 :: a4 :: a5 :: v :: l := rfl
theorem y6 {a0 a1 a2 a3 a4 a5 : Option E} {b : Option E} {l : Ro} : (a0 :: a1 :: a2 :: a3 :: a4 :: a5 :: b :: l)[6]? = some b := rfl
theorem x6 {a0 a1 a2 a3 a4 a5 : Option E} {v : E} {l : Ro} {o : BOp} {e : Sx E} : qAug o 6 e (a0 :: a1 :: a2 :: a3 :: a4 :: a5 :: some v :: l) H = (e (a0 :: a1 :: a2 :: a3 :: a4 :: a5 :: some v :: l) H).st (a0 :: a1 :: a2 :: a3 :: a4 :: a5 :: some v :: l) fun y G1 => match augop o v y with
    | some z => .nx (a0 :: a1 :: a2 :: a3 :: a4 :: a5 :: some z :: l) G1
    | none => .bad := rfl
theorem w7 {a0 a1 a2 a3 a4 a5 a6 : Option E} {v : E} {l : Ro} : sVar 7 (a0 :: a1 :: a2 :: a3 :: a4 :: a5 :: a6 :: some v :: l) H = .ok v H := rfl
theorem z7 {a0 a1 a2 a3 a4 a5 a6 : Option E} {b v : Option E} {l : Ro} : List.set (a0 :: a1 :: a2 :: a3 :: a4 :: a5 :: a6 :: b :: l) 7 v = a0 :: a1 :: a2 :: a3 :: a4 :: a5 :: a6 :: v :: l := rfl
theorem y7 {a0 a1 a2 a3 a4 a5 a6 : Option E} {b : Option E} {l : Ro} : (a0 :: a1 :: a2 :: a3 :: a4 :: a5 :: a6 :: b :: l)[7]? = some b := rfl
theorem x7 {a0 a1 a2 a3 a4 a5 a6 : Option E} {v : E} {l : Ro} {o : BOp} {e : Sx E} : qAug o 7 e (a0 :: a1 :: a2 :: a3 :: a4 :: a5 :: a6 :: some v :: l) H = (e (a0 :: a1 :: a2 :: a3 :: a4 :: a5 :: a6 :: some v :: l) H).st (a0 :: a1 :: a2 :: a3 :: a4 :: a5 :: a6 :: some v :: l) fun y G1 => match augop o v y with
    | some z => .nx (a0 :: a1 :: a2 :: a3 :: a4 :: a5 :: a6 :: some z :: l) G1
    | none => .bad := rfl
theorem w8 {a0 a1 a2 a3 a4 a5 a6 a7 : Option E} {v : E} {l : Ro} : sVar 8 (a0 :: a1 :: a2 :: a3 :: a4 :: a5 :: a6 :: a7 :: some v :: l) H = .ok v H := rfl
theorem z8 {a0 a1 a2 a3 a4 a5 a6 a7 : Option E} {b v : Option E} {l : Ro} : List.set (a0 :: a1 :: a2 :: a3 :: a4 :: a5 :: a6 :: a7 :: b :: l) 8 v = a0 :: a1 :: a2 :: a3 :: a4 :: a5 :: a6 :: a7 :: v :: l := rfl
theorem y8 {a0 a1 a2 a3 a4 a5 a6 a7 : Option E} {b : Option E} {l : Ro} : (a0 :: a1 :: a2 :: a3 :: a4 :: a5 :: a6 :: a7 :: b :: l)[8]? = some b := rfl
theorem x8 {a0 a1 a2 a3 a4 a5 a6 a7 : Option E} {v : E} {l : Ro} {o : BOp} {e : Sx E} : qAug o 8 e (a0 :: a1 :: a2 :: a3 :: a4 :: a5 :: a6 :: a7 :: some v :: l) H = (e (a0 :: a1 :: a2 :: a3 :: a4 :: a5 :: a6 :: a7 :: some v :: l) H).st (a0 :: a1 :: a2 :: a3 :: a4 :: a5 :: a6 :: a7 :: some v :: l) fun y G1 => match augop o v y with
    | some z => .nx (a0 :: a1 :: a2 :: a3 :: a4 :: a5 :: a6 :: a7 :: some z :: l) G1
    | none => .bad := rfl
theorem w9 {a0 a1 a2 a3 a4 a5 a6 a7 a8 : Option E} {v : E} {l : Ro} : sVar 9 (a0 :: a1 :: a2 :: a3 :: a4 :: a5 :: a6 :: a7 :: a8 :: some v :: l) H = .ok v H := rfl
theorem z9 {a0 a1 a2 a3 a4 a5 a6 a7 a8 : Option E} {b v : Option E} {l : Ro} : List.set (a0 :: a1 :: a2 :: a3 :: a4 :: a5 :: a6 :: a7 :: a8 :: b :: l) 9 v = a0 :: a1 :: a2 :: a3 :: a4 :: a5 :: a6 :: a7 :: a8 :: v :: l := rfl
theorem y9 {a0 a1 a2 a3 a4 a5 a6 a7 a8 : Option E} {b : Option E} {l : Ro} : (a0 :: a1 :: a2 :: a3 :: a4 :: a5 :: a6 :: a7 :: a8 :: b :: l)[9]? = some b := rfl
theorem x9 {a0 a1 a2 a3 a4 a5 a6 a7 a8 : Option E} {v : E} {l : Ro} {o : BOp} {e : Sx E} : qAug o 9 e (a0 :: a1 :: a2 :: a3 :: a4 :: a5 :: a6 :: a7 :: a8 :: some v :: l) H = (e (a0 :: a1 :: a2 :: a3 :: a4 :: a5 :: a6 :: a7 :: a8 :: some v :: l) H).st (a0 :: a1 :: a2 :: a3 :: a4 :: a5 :: a6 :: a7 :: a8 :: some v :: l) fun y G1 => match augop o v y with
    | some z => .nx (a0 :: a1 :: a2 :: a3 :: a4 :: a5 :: a6 :: a7 :: a8 :: some z :: l) G1
    | none => .bad := rfl
theorem w10 {a0 a1 a2 a3 a4 a5 a6 a7 a8 a9 : Option E} {v : E} {l : Ro} : sVar 10 (a0 :: a1 :: a2 :: a3 :: a4 :: a5 :: a6 :: a7 :: a8 :: a9 :: some v :: l) H = .ok v H := rfl
theorem z10 {a0 a1 a2 a3 a4 a5 a6 a7 a8 a9 : Option E} {b v : Option E} {l : Ro} : List.set (a0 :: a1 :: a2 :: a3 :: a4 :: a5 :: a6 :: a7 :: a8 :: a9 :: b :: l) 10 v = a0 :: a1 :: a2 :: a3 :: a4 :: a5 :: a6 :: a7 :: a8 :: a9 :: v :: l := rfl
theorem y10 {a0 a1 a2 a3 a4 a5 a6 a7 a8 a9 : Option E} {b : Option E} {l : Ro} : (a0 :: a1 :: a2 :: a3 :: a4 :: a5 :: a6 :: a7 :: a8 :: a9 :: b :: l)[10]? = some b := rfl
theorem x10 {a0 a1 a2 a3 a4 a5 a6 a7 a8 a9 : Option E} {v : E} {l : Ro} {o : BOp} {e : Sx E} : qAug o 10 e (a0 :: a1 :: a2 :: a3 :: a4 :: a5 :: a6 :: a7 :: a8 :: a9 :: some v :: l) H = (e (a0 :: a1 :: a2 :: a3 :: a4 :: a5 :: a6 :: a7 :: a8 :: a9 :: some v :: l) H).st (a0 :: a1 :: a2 :: a3 :: a4 :: a5 :: a6 :: a7 :: a8 :: a9 :: some v :: l) fun y G1 => match augop o v y with
    | some z => .nx (a0 :: a1 :: a2 :: a3 :: a4 :: a5 :: a6 :: a7 :: a8 :: a9 :: some z :: l) G1
    | none => .bad := rfl
theorem w11 {a0 a1 a2 a3 a4 a5 a6 a7 a8 a9 a10 : Option E} {v : E} {l : Ro} : sVar 11 (a0 :: a1 :: a2 :: a3 :: a4 :: a5 :: a6 :: a7 :: a8 :: a9 :: a10 :: some v :: l) H = .ok v H := rfl
theorem z11 {a0 a1 a2 a3 a4 a5 a6 a7 a8 a9 a10 : Option E} {b v : Option E} {l : Ro} : List.set (a0 :: a1 :: a2 :: a3 :: a4 :: a5 :: a6 :: a7 :: a8 :: a9 :: a10 :: b :: l) 11 v = a0 :: a1 :: a2 :: a3 :: a4 :: a5 :: a6 :: a7 :: a8 :: a9 :: a10 :: v :: l := rfl
theorem y11 {a0 a1 a2 a3 a4 a5 a6 a7 a8 a9 a10 : Option E} {b : Option E} {l : Ro} : (a0 :: a1 :: a2 :: a3 :: a4 :: a5 :: a6 :: a7 :: a8 :: a9 :: a10 :: b :: l)[11]? = some b := rfl
theorem x11 {a0 a1 a2 a3 a4 a5 a6 a7 a8 a9 a10 : Option E} {v : E} {l : Ro} {o : BOp} {e : Sx E} : qAug o 11 e (a0 :: a1 :: a2 :: a3 :: a4 :: a5 :: a6 :: a7 :: a8 :: a9 :: a10 :: some v :: l) H = (e (a0 :: a1 :: a2 :: a3 :: a4 :: a5 :: a6 :: a7 :: a8 :: a9 :: a10 :: some v :: l) H).st (a0 :: a1 :: a2 :: a3 :: a4 :: a5 :: a6 :: a7 :: a8 :: a9 :: a10 :: some v :: l) fun y G1 => match augop o v y with
    | some z => .nx (a0 :: a1 :: a2 :: a3 :: a4 :: a5 :: a6 :: a7 :: a8 :: a9 :: a10 :: some z :: l) G1
    | none => .bad := rfl
theorem w12 {a0 a1 a2 a3 a4 a5 a6 a7 a8 a9 a10 a11 : Option E} {v : E} {l : Ro} : sVar 12 (a0 :: a1 :: a2 :: a3 :: a4 :: a5 :: a6 :: a7 :: a8 :: a9 :: a10 :: a11 :: some v :: l) H = .ok v H := rfl
theorem z12 {a0 a1 a2 a3 a4 a5 a6 a7 a8 a9 a10 a11 : Option E} {b v : Option E} {l : Ro} : List.set (a0 :: a1 :: a2 :: a3 :: a4 :: a5 :: a6 :: a7 :: a8 :: a9 :: a10 :: a11 :: b :: l) 12 v = a0 :: a1 :: a2 :: a3 :: a4 :: a5 :: a6 :: a7 :: a8 :: a9 :: a10 :: a11 :: v :: l := rfl
theorem y12 {a0 a1 a2 a3 a4 a5 a6 a7 a8 a9 a10 a11 : Option E} {b : Option E} {l : Ro} : (a0 :: a1 :: a2 :: a3 :: a4 :: a5 :: a6 :: a7 :: a8 :: a9 :: a10 :: a11 :: b :: l)[12]? = some b := rfl
theorem x12 {a0 a1 a2 a3 a4 a5 a6 a7 a8 a9 a10 a11 : Option E} {v : E} {l : Ro} {o : BOp} {e : Sx E} : qAug o 12 e (a0 :: a1 :: a2 :: a3 :: a4 :: a5 :: a6 :: a7 :: a8 :: a9 :: a10 :: a11 :: some v :: l) H = (e (a0 :: a1 :: a2 :: a3 :: a4 :: a5 :: a6 :: a7 :: a8 :: a9 :: a10 :: a11 :: some v :: l) H).st (a0 :: a1 :: a2 :: a3 :: a4 :: a5 :: a6 :: a7 :: a8 :: a9 :: a10 :: a11 :: some v :: l) fun y G1 => match augop o v y with
    | some z => .nx (a0 :: a1 :: a2 :: a3 :: a4 :: a5 :: a6 :: a7 :: a8 :: a9 :: a10 :: a11 :: some z :: l) G1
    | none => .bad := rfl
theorem w13 {a0 a1 a2 a3 a4 a5 a6 a7 a8 a9 a10 a11 a12 : Option E} {v : E} {l : Ro} : sVar 13 (a0 :: a1 :: a2 :: a3 :: a4 :: a5 :: a6 :: a7 :: a8 :: a9 :: a10 :: a11 :: a12 :: some v :: l) H = .ok v H := rfl
theorem z13 {a0 a1 a2 a3 a4 a5 a6 a7 a8 a9 a10 a11 a12 : Option E} {b v : Option E} {l : Ro} : List.set (a0 :: a1 :: a2 :: a3 :: a4 :: a5 :: a6 :: a7 :: a8 :: a9 :: a10 :: a11 :: a12 :: b :: l) 13 v = a0 :: a1 :: a2 :: a3 :: a4 :: a5 :: a6 :: a7 :: a8 :: a9 :: a10 :: a11 :: a12 :: v :: l := rfl
theorem y13 {a0 a1 a2 a3 a4 a5 a6 a7 a8 a9 a10 a11 a12 : Option E} {b : Option E} {l : Ro} : (a0 :: a1 :: a2 :: a3 :: a4 :: a5 :: a6 :: a7 :: a8 :: a9 :: a10 :: a11 :: a12 :: b :: l)[13]? = some b := rfl
theorem x13 {a0 a1 a2 a3 a4 a5 a6 a7 a8 a9 a10 a11 a12 : Option E} {v : E} {l : Ro} {o : BOp} {e : Sx E} : qAug o 13 e (a0 :: a1 :: a2 :: a3 :: a4 :: a5 :: a6 :: a7 :: a8 :: a9 :: a10 :: a11 :: a12 :: some v :: l) H = (e (a0 :: a1 :: a2 :: a3 :: a4 :: a5 :: a6 :: a7 :: a8 :: a9 :: a10 :: a11 :: a12 :: some v :: l) H).st (a0 :: a1 :: a2 :: a3 :: a4 :: a5 :: a6 :: a7 :: a8 :: a9 :: a10 :: a11 :: a12 :: some v :: l) fun y G1 => match augop o v y with
    | some z => .nx (a0 :: a1 :: a2 :: a3 :: a4 :: a5 :: a6 :: a7 :: a8 :: a9 :: a10 :: a11 :: a12 :: some z :: l) G1
    | none => .bad := rfl
theorem w14 {a0 a1 a2 a3 a4 a5 a6 a7 a8 a9 a10 a11 a12 a13 : Option E} {v : E} {l : Ro} : sVar 14 (a0 :: a1 :: a2 :: a3 :: a4 :: a5 :: a6 :: a7 :: a8 :: a9 :: a10 :: a11 :: a12 :: a13 :: some v :: l) H = .ok v H := rfl
theorem z14 {a0 a1 a2 a3 a4 a5 a6 a7 a8 a9 a10 a11 a12 a13 : Option E} {b v : Option E} {l : Ro} : List.set (a0 :: a1 :: a2 :: a3 :: a4 :: a5 :: a6 :: a7 :: a8 :: a9 :: a10 :: a11 :: a12 :: a13 :: b :: l) 14 v = a0 :: a1 :: a2 :: a3 :: a4 :: a5 :: a6 :: a7 :: a8 :: a9 :: a10 :: a11 :: a12 :: a13 :: v :: l := rfl
theorem y14 {a0 a1 a2 a3 a4 a5 a6 a7 a8 a9 a10 a11 a12 a13 : Option E} {b : Option E} {l : Ro} : (a0 :: a1 :: a2 :: a3 :: a4 :: a5 :: a6 :: a7 :: a8 :: a9 :: a10 :: a11 :: a12 :: a13 :: b :: l)[14]? = some b := rfl
theorem x14 {a0 a1 a2 a3 a4 a5 a6 a7 a8 a9 a10 a11 a12 a13 : Option E} {v : E} {l : Ro} {o : BOp} {e : Sx E} : qAug o 14 e (a0 :: a1 :: a2 :: a3 :: a4 :: a5 :: a6 :: a7 :: a8 :: a9 :: a10 :: a11 :: a12 :: a13 :: some v :: l) H = (e (a0 :: a1 :: a2 :: a3 :: a4 :: a5 :: a6 :: a7 :: a8 :: a9 :: a10 :: a11 :: a12 :: a13 :: some v :: l) H).st (a0 :: a1 :: a2 :: a3 :: a4 :: a5 :: a6 :: a7 :: a8 :: a9 :: a10 :: a11 :: a12 :: a13 :: some v :: l) fun y G1 => match augop o v y with
    | some z => .nx (a0 :: a1 :: a2 :: a3 :: a4 :: a5 :: a6 :: a7 :: a8 :: a9 :: a10 :: a11 :: a12 :: a13 :: some z :: l) G1
    | none => .bad := rfl
theorem w15 {a0 a1 a2 a3 a4 a5 a6 a7 a8 a9 a10 a11 a12 a13 a14 : Option E} {v : E} {l : Ro} : sVar 15 (a0 :: a1 :: a2 :: a3 :: a4 :: a5 :: a6 :: a7 :: a8 :: a9 :: a10 :: a11 :: a12 :: a13 :: a14 :: some v :: l) H = .ok v H := rfl
theorem z15 {a0 a1 a2 a3 a4 a5 a6 a7 a8 a9 a10 a11 a12 a13 a14 : Option E} {b v : Option E} {l : Ro} : List.set (a0 :: a1 :: a2 :: a3 :: a4 :: a5 :: a6 :: a7 :: a8 :: a9 :: a10 :: a11 :: a12 :: a13 :: a14 :: b :: l) 15 v = a0 :: a1 :: a2 :: a3 :: a4 :: a5 :: a6 :: a7 :: a8 :: a9 :: a10 :: a11 :: a12 :: a13 :: a14 :: v :: l := rfl
theorem y15 {a0 a1 a2 a3 a4 a5 a6 a7 a8 a9 a10 a11 a12 a13 a14 : Option E} {b : Option E} {l : Ro} : (a0 :: a1 :: a2 :: a3 :: a4 :: a5 :: a6 :: a7 :: a8 :: a9 :: a10 :: a11 :: a12 :: a13 :: a14 :: b :: l)[15]? = some b := rfl
theorem x15 {a0 a1 a2 a3 a4 a5 a6 a7 a8 a9 a10 a11 a12 a13 a14 : Option E} {v : E} {l : Ro} {o : BOp} {e : Sx E} : qAug o 15 e (a0 :: a1 :: a2 :: a3 :: a4 :: a5 :: a6 :: a7 :: a8 :: a9 :: a10 :: a11 :: a12 :: a13 :: a14 :: some v :: l) H = (e (a0 :: a1 :: a2 :: a3 :: a4 :: a5 :: a6 :: a7 :: a8 :: a9 :: a10 :: a11 :: a12 :: a13 :: a14 :: some v :: l) H).st (a0 :: a1 :: a2 :: a3 :: a4 :: a5 :: a6 :: a7 :: a8 :: a9 :: a10 :: a11 :: a12 :: a13 :: a14 :: some v :: l) fun y G1 => match augop o v y with
    | some z => .nx (a0 :: a1 :: a2 :: a3 :: a4 :: a5 :: a6 :: a7 :: a8 :: a9 :: a10 :: a11 :: a12 :: a13 :: a14 :: some z :: l) G1
    | none => .bad := rfl
theorem w16 {a0 a1 a2 a3 a4 a5 a6 a7 a8 a9 a10 a11 a12 a13 a14 a15 : Option E} {v : E} {l : Ro} : sVar 16 (a0 :: a1 :: a2 :: a3 :: a4 :: a5 :: a6 :: a7 :: a8 :: a9 :: a10 :: a11 :: a12 :: a13 :: a14 :: a15 :: some v :: l) H = .ok v H := rfl
theorem z16 {a0 a1 a2 a3 a4 a5 a6 a7 a8 a9 a10 a11 a12 a13 a14 a15 : Option E} {b v : Option E} {l : Ro} : List.set (a0 :: a1 :: a2 :: a3 :: a4 :: a5 :: a6 :: a7 :: a8 :: a9 :: a10 :: a11 :: a12 :: a13 :: a14 :: a15 :: b :: l) 16 v = a0 :: a1 :: a2 :: a3 :: a4 :: a5 :: a6 :: a7 :: a8 :: a9 :: a10 :: a11 :: a12 :: a13 :: a14 :: a15 :: v :: l := rfl
theorem y16 {a0 a1 a2 a3 a4 a5 a6 a7 a8 a9 a10 a11 a12 a13 a14 a15 : Option E} {b : Option E} {l : Ro} : (a0 :: a1 :: a2 :: a3 :: a4 :: a5 :: a6 :: a7 :: a8 :: a9 :: a10 :: a11 :: a12 :: a13 :: a14 :: a15 :: b :: l)[16]? = some b := rfl
theorem x16 {a0 a1 a2 a3 a4 a5 a6 a7 a8 a9 a10 a11 a12 a13 a14 a15 : Option E} {v : E} {l : Ro} {o : BOp} {e : Sx E} : qAug o 16 e (a0 :: a1 :: a2 :: a3 :: a4 :: a5 :: a6 :: a7 :: a8 :: a9 :: a10 :: a11 :: a12 :: a13 :: a14 :: a15 :: some v :: l) H = (e (a0 :: a1 :: a2 :: a3 :: a4 :: a5 :: a6 :: a7 :: a8 :: a9 :: a10 :: a11 :: a12 :: a13 :: a14 :: a15 :: some v :: l) H).st (a0 :: a1 :: a2 :: a3 :: a4 :: a5 :: a6 :: a7 :: a8 :: a9 :: a10 :: a11 :: a12 :: a13 :: a14 :: a15 :: some v :: l) fun y G1 => match augop o v y with
    | some z => .nx (a0 :: a1 :: a2 :: a3 :: a4 :: a5 :: a6 :: a7 :: a8 :: a9 :: a10 :: a11 :: a12 :: a13 :: a14 :: a15 :: some z :: l) G1
    | none => .bad := rfl
theorem w17 {a0 a1 a2 a3 a4 a5 a6 a7 a8 a9 a10 a11 a12 a13 a14 a15 a16 : Option E} {v : E} {l : Ro} : sVar 17 (a0 :: a1 :: a2 :: a3 :: a4 :: a5 :: a6 :: a7 :: a8 :: a9 :: a10 :: a11 :: a12 :: a13 :: a14 :: a15 :: a16 :: some v :: l) H = .ok v H := rfl
theorem z17 {a0 a1 a2 a3 a4 a5 a6 a7 a8 a9 a10 a11 a12 a13 a14 a15 a16 : Option E} {b v : Option E} {l : Ro} : List.set (a0 :: a1 :: a2 :: a3 :: a4 :: a5 :: a6 :: a7 :: a8 :: a9 :: a10 :: a11 :: a12 :: a13 :: a14 :: a15 :: a16 :: b :: l) 17 v = a0 :: a1 :: a2 :: a3 :: a4 :: a5 :: a6 :: a7 :: a8 :: a9 :: a10 :: a11 :: a12 :: a13 :: a14 :: a15 :: a16 :: v :: l := rfl
theorem y17 {a0 a1 a2 a3 a4 a5 a6 a7 a8 a9 a10 a11 a12 a13 a14 a15 a16 : Option E} {b : Option E} {l : Ro} : (a0 :: a1 :: a2 :: a3 :: a4 :: a5 :: a6 :: a7 :: a8 :: a9 :: a10 :: a11 :: a12 :: a13 :: a14 :: a15 :: a16 :: b :: l)[17]? = some b := rfl
theorem x17 {a0 a1 a2 a3 a4 a5 a6 a7 a8 a9 a10 a11 a12 a13 a14 a15 a16 : Option E} {v : E} {l : Ro} {o : BOp} {e : Sx E} : qAug o 17 e (a0 :: a1 :: a2 :: a3 :: a4 :: a5 :: a6 :: a7 :: a8 :: a9 :: a10 :: a11 :: a12 :: a13 :: a14 :: a15 :: a16 :: some v :: l) H = (e (a0 :: a1 :: a2 :: a3 :: a4 :: a5 :: a6 :: a7 :: a8 :: a9 :: a10 :: a11 :: a12 :: a13 :: a14 :: a15 :: a16 :: some v :: l) H).st (a0 :: a1 :: a2 :: a3 :: a4 :: a5 :: a6 :: a7 :: a8 :: a9 :: a10 :: a11 :: a12 :: a13 :: a14 :: a15 :: a16 :: some v :: l) fun y G1 => match augop o v y with
    | some z => .nx (a0 :: a1 :: a2 :: a3 :: a4 :: a5 :: a6 :: a7 :: a8 :: a9 :: a10 :: a11 :: a12 :: a13 :: a14 :: a15 :: a16 :: some z :: l) G1
    | none => .bad := rfl
theorem w18 {a0 a1 a2 a3 a4 a5 a6 a7 a8 a9 a10 a11 a12 a13 a14 a15 a16 a17 : Option E} {v : E} {l : Ro} : sVar 18 (a0 :: a1 :: a2 :: a3 :: a4 :: a5 :: a6 :: a7 :: a8 :: a9 :: a10 :: a11 :: a12 :: a13 :: a14 :: a15 :: a16 :: a17 :: some v :: l) H = .ok v H := rfl
theorem z18 {a0 a1 a2 a3 a4 a5 a6 a7 a8 a9 a10 a11 a12 a13 a14 a15 a16 a17 : Option E} {b v : Option E} {l : Ro} : List.set (a0 :: a1 :: a2 :: a3 :: a4 :: a5 :: a6 :: a7 :: a8 :: a9 :: a10 :: a11 :: a12 :: a13 :: a14 :: a15 :: a16 :: a17 :: b :: l) 18 v = a0 :: a1 :: a2 :: a3 :: a4 :: a5 :: a6 :: a7 :: a8 :: a9 :: a10 :: a11 :: a12 :: a13 :: a14 :: a15 :: a16 :: a17 :: v :: l := rfl
theorem y18 {a0 a1 a2 a3 a4 a5 a6 a7 a8 a9 a10 a11 a12 a13 a14 a15 a16 a17 : Option E} {b : Option E} {l : Ro} : (a0 :: a1 :: a2 :: a3 :: a4 :: a5 :: a6 :: a7 :: a8 :: a9 :: a10 :: a11 :: a12 :: a13 :: a14 :: a15 :: a16 :: a17 :: b :: l)[18]? = some b := rfl
theorem x18 {a0 a1 a2 a3 a4 a5 a6 a7 a8 a9 a10 a11 a12 a13 a14 a15 a16 a17 : Option E} {v : E} {l : Ro} {o : BOp} {e : Sx E} : qAug o 18 e (a0 :: a1 :: a2 :: a3 :: a4 :: a5 :: a6 :: a7 :: a8 :: a9 :: a10 :: a11 :: a12 :: a13 :: a14 :: a15 :: a16 :: a17 :: some v :: l) H = (e (a0 :: a1 :: a2 :: a3 :: a4 :: a5 :: a6 :: a7 :: a8 :: a9 :: a10 :: a11 :: a12 :: a13 :: a14 :: a15 :: a16 :: a17 :: some v :: l) H).st (a0 :: a1 :: a2 :: a3 :: a4 :: a5 :: a6 :: a7 :: a8 :: a9 :: a10 :: a11 :: a12 :: a13 :: a14 :: a15 :: a16 :: a17 :: some v :: l) fun y G1 => match augop o v y with
    | some z => .nx (a0 :: a1 :: a2 :: a3 :: a4 :: a5 :: a6 :: a7 :: a8 :: a9 :: a10 :: a11 :: a12 :: a13 :: a14 :: a15 :: a16 :: a17 :: some z :: l) G1
    | none => .bad := rfl
theorem w19 {a0 a1 a2 a3 a4 a5 a6 a7 a8 a9 a10 a11 a12 a13 a14 a15 a16 a17 a18 : Option E} {v : E} {l : Ro} : sVar 19 (a0 :: a1 :: a2 :: a3 :: a4 :: a5 :: a6 :: a7 :: a8 :: a9 :: a10 :: a11 :: a12 :: a13 :: a14 :: a15 :: a16 :: a17 :: a18 :: some v :: l) H = .ok v H := rfl
theorem z19 {a0 a1 a2 a3 a4 a5 a6 a7 a8 a9 a10 a11 a12 a13 a14 a15 a16 a17 a18 : Option E} {b v : Option E} {l : Ro} : List.set (a0 :: a1 :: a2 :: a3 :: a4 :: a5 :: a6 :: a7 :: a8 :: a9 :: a10 :: a11 :: a12 :: a13 :: a14 :: a15 :: a16 :: a17 :: a18 :: b :: l) 19 v = a0 :: a1 :: a2 :: a3 :: a4 :: a5 :: a6 :: a7 :: a8 :: a9 :: a10 :: a11 :: a12 :: a13 :: a14 :: a15 :: a16 :: a17 :: a18 :: v :: l := rfl
theorem y19 {a0 a1 a2 a3 a4 a5 a6 a7 a8 a9 a10 a11 a12 a13 a14 a15 a16 a17 a18 : Option E} {b : Option E} {l : Ro} : (a0 :: a1 :: a2 :: a3 :: a4 :: a5 :: a6 :: a7 :: a8 :: a9 :: a10 :: a11 :: a12 :: a13 :: a14 :: a15 :: a16 :: a17 :: a18 :: b :: l)[19]? = some b := rfl
theorem x19 {a0 a1 a2 a3 a4 a5 a6 a7 a8 a9 a10 a11 a12 a13 a14 a15 a16 a17 a18 : Option E} {v : E} {l : Ro} {o : BOp} {e : Sx E} : qAug o 19 e (a0 :: a1 :: a2 :: a3 :: a4 :: a5 :: a6 :: a7 :: a8 :: a9 :: a10 :: a11 :: a12 :: a13 :: a14 :: a15 :: a16 :: a17 :: a18 :: some v :: l) H = (e (a0 :: a1 :: a2 :: a3 :: a4 :: a5 :: a6 :: a7 :: a8 :: a9 :: a10 :: a11 :: a12 :: a13 :: a14 :: a15 :: a16 :: a17 :: a18 :: some v :: l) H).st (a0 :: a1 :: a2 :: a3 :: a4 :: a5 :: a6 :: a7 :: a8 :: a9 :: a10 :: a11 :: a12 :: a13 :: a14 :: a15 :: a16 :: a17 :: a18 :: some v :: l) fun y G1 => match augop o v y with
    | some z => .nx (a0 :: a1 :: a2 :: a3 :: a4 :: a5 :: a6 :: a7 :: a8 :: a9 :: a10 :: a11 :: a12 :: a13 :: a14 :: a15 :: a16 :: a17 :: a18 :: some z :: l) G1
    | none => .bad := rfl
theorem w20 {a0 a1 a2 a3 a4 a5 a6 a7 a8 a9 a10 a11 a12 a13 a14 a15 a16 a17 a18 a19 : Option E} {v : E} {l : Ro} : sVar 20 (a0 :: a1 :: a2 :: a3 :: a4 :: a5 :: a6 :: a7 :: a8 :: a9 :: a10 :: a11 :: a12 :: a13 :: a14 :: a15 :: a16 :: a17 :: a18 :: a19 :: some v :: l) H = .ok v H := rfl
theorem z20 {a0 a1 a2 a3 a4 a5 a6 a7 a8 a9 a10 a11 a12 a13 a14 a15 a16 a17 a18 a19 : Option E} {b v : Option E} {l : Ro} : List.set (a0 :: a1 :: a2 :: a3 :: a4 :: a5 :: a6 :: a7 :: a8 :: a9 :: a10 :: a11 :: a12 :: a13 :: a14 :: a15 :: a16 :: a17 :: a18 :: a19 :: b :: l) 20 v = a0 :: a1 :: a2 :: a3 :: a4 :: a5 :: a6 :: a7 :: a8 :: a9 :: a10 :: a11 :: a12 :: a13 :: a14 :: a15 :: a16 :: a17 :: a18 :: a19 :: v :: l := rfl
theorem y20 {a0 a1 a2 a3 a4 a5 a6 a7 a8 a9 a10 a11 a12 a13 a14 a15 a16 a17 a18 a19 : Option E} {b : Option E} {l : Ro} : (a0 :: a1 :: a2 :: a3 :: a4 :: a5 :: a6 :: a7 :: a8 :: a9 :: a10 :: a11 :: a12 :: a13 :: a14 :: a15 :: a16 :: a17 :: a18 :: a19 :: b :: l)[20]? = some b := rfl
theorem x20 {a0 a1 a2 a3 a4 a5 a6 a7 a8 a9 a10 a11 a12 a13 a14 a15 a16 a17 a18 a19 : Option E} {v : E} {l : Ro} {o : BOp} {e : Sx E} : qAug o 20 e (a0 :: a1 :: a2 :: a3 :: a4 :: a5 :: a6 :: a7 :: a8 :: a9 :: a10 :: a11 :: a12 :: a13 :: a14 :: a15 :: a16 :: a17 :: a18 :: a19 :: some v :: l) H = (e (a0 :: a1 :: a2 :: a3 :: a4 :: a5 :: a6 :: a7 :: a8 :: a9 :: a10 :: a11 :: a12 :: a13 :: a14 :: a15 :: a16 :: a17 :: a18 :: a19 :: some v :: l) H).st (a0 :: a1 :: a2 :: a3 :: a4 :: a5 :: a6 :: a7 :: a8 :: a9 :: a10 :: a11 :: a12 :: a13 :: a14 :: a15 :: a16 :: a17 :: a18 :: a19 :: some v :: l) fun y G1 => match augop o v y with
    | some z => .nx (a0 :: a1 :: a2 :: a3 :: a4 :: a5 :: a6 :: a7 :: a8 :: a9 :: a10 :: a11 :: a12 :: a13 :: a14 :: a15 :: a16 :: a17 :: a18 :: a19 :: some z :: l) G1
    | none => .bad := rfl
theorem w21 {a0 a1 a2 a3 a4 a5 a6 a7 a8 a9 a10 a11 a12 a13 a14 a15 a16 a17 a18 a19 a20 : Option E} {v : E} {l : Ro} : sVar 21 (a0 :: a1 :: a2 :: a3 :: a4 :: a5 :: a6 :: a7 :: a8 :: a9 :: a10 :: a11 :: a12 :: a13 :: a14 :: a15 :: a16 :: a17 :: a18 :: a19 :: a20 :: some v :: l) H = .ok v H := rfl
theorem z21 {a0 a1 a2 a3 a4 a5 a6 a7 a8 a9 a10 a11 a12 a13 a14 a15 a16 a17 a18 a19 a20 : Option E} {b v : Option E} {l : Ro} : List.set (a0 :: a1 :: a2 :: a3 :: a4 :: a5 :: a6 :: a7 :: a8 :: a9 :: a10 :: a11 :: a12 :: a13 :: a14 :: a15 :: a16 :: a17 :: a18 :: a19 :: a20 :: b :: l) 21 v = a0 :: a1 :: a2 :: a3 :: a4 :: a5 :: a6 :: a7 :: a8 :: a9 :: a10 :: a11 :: a12 :: a13 :: a14 :: a15 :: a16 :: a17 :: a18 :: a19 :: a20 :: v :: l := rfl
theorem y21 {a0 a1 a2 a3 a4 a5 a6 a7 a8 a9 a10 a11 a12 a13 a14 a15 a16 a17 a18 a19 a20 : Option E} {b : Option E} {l : Ro} : (a0 :: a1 :: a2 :: a3 :: a4 :: a5 :: a6 :: a7 :: a8 :: a9 :: a10 :: a11 :: a12 :: a13 :: a14 :: a15 :: a16 :: a17 :: a18 :: a19 :: a20 :: b :: l)[21]? = some b := rfl
theorem x21 {a0 a1 a2 a3 a4 a5 a6 a7 a8 a9 a10 a11 a12 a13 a14 a15 a16 a17 a18 a19 a20 : Option E} {v : E} {l : Ro} {o : BOp} {e : Sx E} : qAug o 21 e (a0 :: a1 :: a2 :: a3 :: a4 :: a5 :: a6 :: a7 :: a8 :: a9 :: a10 :: a11 :: a12 :: a13 :: a14 :: a15 :: a16 :: a17 :: a18 :: a19 :: a20 :: some v :: l) H = (e (a0 :: a1 :: a2 :: a3 :: a4 :: a5 :: a6 :: a7 :: a8 :: a9 :: a10 :: a11 :: a12 :: a13 :: a14 :: a15 :: a16 :: a17 :: a18 :: a19 :: a20 :: some v :: l) H).st (a0 :: a1 :: a2 :: a3 :: a4 :: a5 :: a6 :: a7 :: a8 :: a9 :: a10 :: a11 :: a12 :: a13 :: a14 :: a15 :: a16 :: a17 :: a18 :: a19 :: a20 :: some v :: l) fun y G1 => match augop o v y with
    | some z => .nx (a0 :: a1 :: a2 :: a3 :: a4 :: a5 :: a6 :: a7 :: a8 :: a9 :: a10 :: a11 :: a12 :: a13 :: a14 :: a15 :: a16 :: a17 :: a18 :: a19 :: a20 :: some z :: l) G1
    | none => .bad := rfl
theorem w22 {a0 a1 a2 a3 a4 a5 a6 a7 a8 a9 a10 a11 a12 a13 a14 a15 a16 a17 a18 a19 a20 a21 : Option E} {v : E} {l : Ro} : sVar 22 (a0 :: a1 :: a2 :: a3 :: a4 :: a5 :: a6 :: a7 :: a8 :: a9 :: a10 :: a11 :: a12 :: a13 :: a14 :: a15 :: a16 :: a17 :: a18 :: a19 :: a20 :: a21 :: some v :: l) H = .ok v H := rfl
theorem z22 {a0 a1 a2 a3 a4 a5 a6 a7 a8 a9 a10 a11 a12 a13 a14 a15 a16 a17 a18 a19 a20 a21 : Option E} {b v : Option E} {l : Ro} : List.set (a0 :: a1 :: a2 :: a3 :: a4 :: a5 :: a6 :: a7 :: a8 :: a9 :: a10 :: a11 :: a12 :: a13 :: a14 :: a15 :: a16 :: a17 :: a18 :: a19 :: a20 :: a21 :: b :: l) 22 v = a0 :: a1 :: a2 :: a3 :: a4 :: a5 :: a6 :: a7 :: a8 :: a9 :: a10 :: a11 :: a12 :: a13 :: a14 :: a15 :: a16 :: a17 :: a18 :: a19 :: a20 :: a21 :: v :: l := rfl
theorem y22 {a0 a1 a2 a3 a4 a5 a6 a7 a8 a9 a10 a11 a12 a13 a14 a15 a16 a17 a18 a19 a20 a21 : Option E} {b : Option E} {l : Ro} : (a0 :: a1 :: a2 :: a3 :: a4 :: a5 :: a6 :: a7 :: a8 :: a9 :: a10 :: a11 :: a12 :: a13 :: a14 :: a15 :: a16 :: a17 :: a18 :: a19 :: a20 :: a21 :: b :: l)[22]? = some b := rfl
theorem x22 {a0 a1 a2 a3 a4 a5 a6 a7 a8 a9 a10 a11 a12 a13 a14 a15 a16 a17 a18 a19 a20 a21 : Option E} {v : E} {l : Ro} {o : BOp} {e : Sx E} : qAug o 22 e (a0 :: a1 :: a2 :: a3 :: a4 :: a5 :: a6 :: a7 :: a8 :: a9 :: a10 :: a11 :: a12 :: a13 :: a14 :: a15 :: a16 :: a17 :: a18 :: a19 :: a20 :: a21 :: some v :: l) H = (e (a0 :: a1 :: a2 :: a3 :: a4 :: a5 :: a6 :: a7 :: a8 :: a9 :: a10 :: a11 :: a12 :: a13 :: a14 :: a15 :: a16 :: a17 :: a18 :: a19 :: a20 :: a21 :: some v :: l) H).st (a0 :: a1 :: a2 :: a3 :: a4 :: a5 :: a6 :: a7 :: a8 :: a9 :: a10 :: a11 :: a12 :: a13 :: a14 :: a15 :: a16 :: a17 :: a18 :: a19 :: a20 :: a21 :: some v :: l) fun y G1 => match augop o v y with
    | some z => .nx (a0 :: a1 :: a2 :: a3 :: a4 :: a5 :: a6 :: a7 :: a8 :: a9 :: a10 :: a11 :: a12 :: a13 :: a14 :: a15 :: a16 :: a17 :: a18 :: a19 :: a20 :: a21 :: some z :: l) G1
    | none => .bad := rfl
theorem w23 {a0 a1 a2 a3 a4 a5 a6 a7 a8 a9 a10 a11 a12 a13 a14 a15 a16 a17 a18 a19 a20 a21 a22 : Option E} {v : E} {l : Ro} : sVar 23 (a0 :: a1 :: a2 :: a3 :: a4 :: a5 :: a6 :: a7 :: a8 :: a9 :: a10 :: a11 :: a12 :: a13 :: a14 :: a15 :: a16 :: a17 :: a18 :: a19 :: a20 :: a21 :: a22 :: some v :: l) H = .ok v H := rfl
theorem z23 {a0 a1 a2 a3 a4 a5 a6 a7 a8 a9 a10 a11 a12 a13 a14 a15 a16 a17 a18 a19 a20 a21 a22 : Option E} {b v : Option E} {l : Ro} : List.set (a0 :: a1 :: a2 :: a3 :: a4 :: a5 :: a6 :: a7 :: a8 :: a9 :: a10 :: a11 :: a12 :: a13 :: a14 :: a15 :: a16 :: a17 :: a18 :: a19 :: a20 :: a21 :: a22 :: b :: l) 23 v = a0 :: a1 :: a2 :: a3 :: a4 :: a5 :: a6 :: a7 :: a8 :: a9 :: a10 :: a11 :: a12 :: a13 :: a14 :: a15 :: a16 :: a17 :: a18 :: a19 :: a20 :: a21 :: a22 :: v :: l := rfl
theorem y23 {a0 a1 a2 a3 a4 a5 a6 a7 a8 a9 a10 a11 a12 a13 a14 a15 a16 a17 a18 a19 a20 a21 a22 : Option E} {b : Option E} {l : Ro} : (a0 :: a1 :: a2 :: a3 :: a4 :: a5 :: a6 :: a7 :: a8 :: a9 :: a10 :: a11 :: a12 :: a13 :: a14 :: a15 :: a16 :: a17 :: a18 :: a19 :: a20 :: a21 :: a22 :: b :: l)[23]? = some b := rfl
theorem x23 {a0 a1 a2 a3 a4 a5 a6 a7 a8 a9 a10 a11 a12 a13 a14 a15 a16 a17 a18 a19 a20 a21 a22 : Option E} {v : E} {l : Ro} {o : BOp} {e : Sx E} : qAug o 23 e (a0 :: a1 :: a2 :: a3 :: a4 :: a5 :: a6 :: a7 :: a8 :: a9 :: a10 :: a11 :: a12 :: a13 :: a14 :: a15 :: a16 :: a17 :: a18 :: a19 :: a20 :: a21 :: a22 :: some v :: l) H = (e (a0 :: a1 :: a2 :: a3 :: a4 :: a5 :: a6 :: a7 :: a8 :: a9 :: a10 :: a11 :: a12 :: a13 :: a14 :: a15 :: a16 :: a17 :: a18 :: a19 :: a20 :: a21 :: a22 :: some v :: l) H).st (a0 :: a1 :: a2 :: a3 :: a4 :: a5 :: a6 :: a7 :: a8 :: a9 :: a10 :: a11 :: a12 :: a13 :: a14 :: a15 :: a16 :: a17 :: a18 :: a19 :: a20 :: a21 :: a22 :: some v :: l) fun y G1 => match augop o v y with
    | some z => .nx (a0 :: a1 :: a2 :: a3 :: a4 :: a5 :: a6 :: a7 :: a8 :: a9 :: a10 :: a11 :: a12 :: a13 :: a14 :: a15 :: a16 :: a17 :: a18 :: a19 :: a20 :: a21 :: a22 :: some z :: l) G1
    | none => .bad := rfl
theorem w24 {a0 a1 a2 a3 a4 a5 a6 a7 a8 a9 a10 a11 a12 a13 a14 a15 a16 a17 a18 a19 a20 a21 a22 a23 : Option E} {v : E} {l : Ro} : sVar 24 (a0 :: a1 :: a2 :: a3 :: a4 :: a5 :: a6 :: a7 :: a8 :: a9 :: a10 :: a11 :: a12 :: a13 :: a14 :: a15 :: a16 :: a17 :: a18 :: a19 :: a20 :: a21 :: a22 :: a23 :: some v :: l) H = .ok v H := rfl
theorem z24 {a0 a1 a2 a3 a4 a5 a6 a7 a8 a9 a10 a11 a12 a13 a14 a15 a16 a17 a18 a19 a20 a21 a22 a23 : Option E} {b v : Option E} {l : Ro} : List.set (a0 :: a1 :: a2 :: a3 :: a4 :: a5 :: a6 :: a7 :: a8 :: a9 :: a10 :: a11 :: a12 :: a13 :: a14 :: a15 :: a16 :: a17 :: a18 :: a19 :: a20 :: a21 :: a22 :: a23 :: b :: l) 24 v = a0 :: a1 :: a2 :: a3 :: a4 :: a5 :: a6 :: a7 :: a8 :: a9 :: a10 :: a11 :: a12 :: a13 :: a14 :: a15 :: a16 :: a17 :: a18 :: a19 :: a20 :: a21 :: a22 :: a23 :: v :: l := rfl
theorem y24 {a0 a1 a2 a3 a4 a5 a6 a7 a8 a9 a10 a11 a12 a13 a14 a15 a16 a17 a18 a19 a20 a21 a22 a23 : Option E} {b : Option E} {l : Ro} : (a0 :: a1 :: a2 :: a3 :: a4 :: a5 :: a6 :: a7 :: a8 :: a9 :: a10 :: a11 :: a12 :: a13 :: a14 :: a15 :: a16 :: a17 :: a18 :: a19 :: a20 :: a21 :: a22 :: a23 :: b :: l)[24]? = some b := rfl
theorem x24 {a0 a1 a2 a3 a4 a5 a6 a7 a8 a9 a10 a11 a12 a13 a14 a15 a16 a17 a18 a19 a20 a21 a22 a23 : Option E} {v : E} {l : Ro} {o : BOp} {e : Sx E} : qAug o 24 e (a0 :: a1 :: a2 :: a3 :: a4 :: a5 :: a6 :: a7 :: a8 :: a9 :: a10 :: a11 :: a12 :: a13 :: a14 :: a15 :: a16 :: a17 :: a18 :: a19 :: a20 :: a21 :: a22 :: a23 :: some v :: l) H = (e (a0 :: a1 :: a2 :: a3 :: a4 :: a5 :: a6 :: a7 :: a8 :: a9 :: a10 :: a11 :: a12 :: a13 :: a14 :: a15 :: a16 :: a17 :: a18 :: a19 :: a20 :: a21 :: a22 :: a23 :: some v :: l) H).st (a0 :: a1 :: a2 :: a3 :: a4 :: a5 :: a6 :: a7 :: a8 :: a9 :: a10 :: a11 :: a12 :: a13 :: a14 :: a15 :: a16 :: a17 :: a18 :: a19 :: a20 :: a21 :: a22 :: a23 :: some v :: l) fun y G1 => match augop o v y with
    | some z => .nx (a0 :: a1 :: a2 :: a3 :: a4 :: a5 :: a6 :: a7 :: a8 :: a9 :: a10 :: a11 :: a12 :: a13 :: a14 :: a15 :: a16 :: a17 :: a18 :: a19 :: a20 :: a21 :: a22 :: a23 :: some z :: l) G1
    | none => .bad := rfl
end
/-! turns -/
section
variable {st : Option Nat} {all r : List E} {tg : Tg} {b : Ss} {x : E} {ρ ρ1 ρ2 : Ro} {H H2 : Hq}
theorem for_nx (hs : staysB st all H = true) (ht : tg.set x ρ = some ρ1) (hb : b ρ1 H = .nx ρ2 H2) : forS st all tg b (x :: r) ρ H = forS st all tg b r ρ2 H2 := by
  show (if staysB st all H then _ else _) = _
  rw [if_pos hs, ht]
  show (match b ρ1 H with | .nx ρ2 G2 => forS st all tg b r ρ2 G2 | .ct ρ2 G2 => forS st all tg b r ρ2 G2 | .bk ρ2 G2 => .nx ρ2 G2 | .rt v G2 => .rt v G2 | .ex c ρ2 G2 => .ex c ρ2 G2 | .bad => .bad) = _
  rw [hb]
theorem for_rt {v : E} (hs : staysB st all H = true) (ht : tg.set x ρ = some ρ1) (hb : b ρ1 H = .rt v H2) : forS st all tg b (x :: r) ρ H = .rt v H2 := by
  show (if staysB st all H then _ else _) = _
  rw [if_pos hs, ht]
  show (match b ρ1 H with | .nx ρ2 G2 => forS st all tg b r ρ2 G2 | .ct ρ2 G2 => forS st all tg b r ρ2 G2 | .bk ρ2 G2 => .nx ρ2 G2 | .rt v G2 => .rt v G2 | .ex c ρ2 G2 => .ex c ρ2 G2 | .bad => .bad) = _
  rw [hb]
theorem for_ex {c : Nat} (hs : staysB st all H = true) (ht : tg.set x ρ = some ρ1) (hb : b ρ1 H = .ex c ρ2 H2) : forS st all tg b (x :: r) ρ H = .ex c ρ2 H2 := by
  show (if staysB st all H then _ else _) = _
  rw [if_pos hs, ht]
  show (match b ρ1 H with | .nx ρ2 G2 => forS st all tg b r ρ2 G2 | .ct ρ2 G2 => forS st all tg b r ρ2 G2 | .bk ρ2 G2 => .nx ρ2 G2 | .rt v G2 => .rt v G2 | .ex c ρ2 G2 => .ex c ρ2 G2 | .bad => .bad) = _
  rw [hb]
theorem for_end (hs : staysB st all H = true) : forS st all tg b [] ρ H = .nx ρ H := by
  show (if staysB st all H then _ else _) = _
  rw [if_pos hs]
/-- a comprehension's turn -/
theorem lc_turn {c : Sx Bool} {e : Sx E} {acc : List E} {y : E} (hs : staysB st all H = true) (ht : tg.set x ρ = some ρ1) (hc : c ρ1 H = .ok true H) (he : e ρ1 H = .ok y H2) (hl : acc.length < 16777216) :
    lcS st all tg c e ρ (x :: r) acc H = lcS st all tg c e ρ r (acc ++ [y]) H2 := by
  show (if staysB st all H then _ else _) = _
  rw [if_pos hs, ht]
  show ((c ρ1 H).nox.bind fun b G1 => if b then ((e ρ1 G1).nox).bind fun y G2 => if acc.length < sizeLine then lcS st all tg c e ρ r (acc ++ [y]) G2 else .bad else lcS st all tg c e ρ r acc G1) = _
  rw [hc]
  show ((e ρ1 H).nox.bind fun y G2 => if acc.length < sizeLine then lcS st all tg c e ρ r (acc ++ [y]) G2 else .bad) = _
  rw [he]
  show (if acc.length < sizeLine then lcS st all tg c e ρ r (acc ++ [y]) H2 else .bad) = _
  rw [if_pos (by rw [sizeLine_eq]; exact hl)]
theorem lc_end {c : Sx Bool} {e : Sx E} {acc : List E} (hs : staysB st all H = true) : lcS st all tg c e ρ [] acc H = .ok acc H := by
  show (if staysB st all H then _ else _) = _
  rw [if_pos hs]
/-- a comprehension that changes nothing: each item by f -/
theorem lc_map {α : Type} {g f : α → E} {c : Sx Bool} {e : Sx E} {n : Nm} (hc : ∀ ρ, c ρ H = .ok true H) : ∀ (l : List α) (acc : List E), (∀ a ∈ l, e (ρ.set n.i (some (g a))) H = .ok (f a) H) → acc.length + l.length ≤ 16777216 →
    lcS none all (.name n) c e ρ (l.map g) acc H = .ok (acc ++ l.map f) H
  | [], acc, _, _ => by rw [List.map_nil, lc_end rfl]; simp
  | a :: l, acc, he, hl => by
    rw [List.length_cons] at hl
    rw [List.map_cons, lc_turn (ρ1 := ρ.set n.i (some (g a))) rfl rfl (hc _) (he a List.mem_cons_self) (by omega), lc_map hc l _ (fun b hb => he b (List.mem_cons_of_mem _ hb)) (by simp; omega)]
    simp
end
end Lt
end
section
set_option Elab.async false
set_option linter.all false
set_option maxRecDepth 100000
/-! Lt: rules for the wider constructs. -/
namespace Lt
open PySem L2
section
variable {P : Par} {ρ : Ro} {H : Hq}
theorem v_attr {a : Sx E} {f : Str} : sAttr P a f ρ H = (a ρ H).bind fun x G1 => optR (attrE P G1 f x) G1 := rfl
theorem v_meth {a : Sx E} {m : Str} {es : Sx (List E)} : sMeth P a m es ρ H = ((a ρ H).nox).bind fun x G1 => (optR (methE P G1 m x) G1).bind fun f _ => (es ρ G1).bind fun xs G2 => if xs.length + 1 = f.2 then P.cl f.1 (x :: xs) G2 else .bad := rfl
theorem v_nox {α : Type} {x : α} : (R.ok x H : R α).nox = .ok x H := rfl
theorem v_dct0 : sDct0 ρ H = .ok (.ref H.length) (H ++ [.dct []]) := rfl
theorem v_dcp {a : Sx E} : sDcp a ρ H = (a ρ H).bind fun x G1 => (optR (dctE G1 x) G1).bind fun kvs _ => .ok (.ref G1.length) (G1 ++ [.dct kvs]) := rfl
theorem v_dget {a k d : Sx E} : sDget a k d ρ H = (a ρ H).bind fun x G1 => (optR (dctE G1 x) G1).bind fun _ _ => (k ρ G1).bind fun y G2 => (d ρ G2).bind fun z G3 => (optR (dctE G3 x) G3).bind fun kvs _ => (optR (strE y) G3).bind fun s _ => .ok ((kvs.lookup s).getD z) G3 := rfl
theorem v_dpop {a k d : Sx E} : sDpop a k d ρ H = (a ρ H).bind fun x G1 => (optR (dctE G1 x) G1).bind fun _ _ => (k ρ G1).bind fun y G2 => (d ρ G2).bind fun z G3 => (optR (dctE G3 x) G3).bind fun kvs _ => (optR (strE y) G3).bind fun s _ => (optR (refE x) G3).bind fun n _ =>
  match kvs.lookup s with
  | some v => .ok v (G3.set n (.dct (dropS kvs s)))
  | none => .ok z G3 := rfl
theorem v_chain {o1 o2 : COp} {a b c : Sx E} : sChain o1 o2 a b c ρ H = (a ρ H).bind fun x G1 => (b ρ G1).bind fun y G2 => (optR (cmpop o1 x y) G2).bind fun k _ => if k then (c ρ G2).bind fun z G3 => optR (cmpop o2 y z) G3 else .ok false G2 := rfl
theorem v_tupE {a : Sx E} : sTupE a ρ H = (a ρ H).bind fun x G1 => match x with
  | .tup xs => .ok (.tup xs) G1
  | _ => .bad := rfl
theorem v_min2 {a b : Sx E} : sMin2 a b ρ H = (a ρ H).bind fun x G1 => (b ρ G1).bind fun y G2 => optR (minE x y) G2 := rfl
theorem v_listT {a : Sx E} : sListT a ρ H = (a ρ H).bind fun x G1 => match x with
  | .tup xs => .ok (.tmp xs) G1
  | _ => .bad := rfl
theorem v_sortS {a : Sx E} : sSortS a ρ H = (a ρ H).bind fun x G1 => match x with
  | .ref n => (match G1[n]? with
    | some (.dct kvs) => if kvs.length < 64 then .ok (.tmp ((keysOf kvs).map E.str)) G1 else .bad
    | _ => .bad)
  | .str z => if z.length ≤ 4000 ∧ risesB z.cps.toList = true then .ok (.tmp (signs z)) G1 else .bad
  | _ => .bad := rfl
theorem v_neL {a b : Sx LH} : sNeL a b ρ H = (a ρ H).bind fun x G1 => (b ρ G1).bind fun y G2 => (optR (x.get G2) G2).bind fun xs _ => (optR (y.get G2) G2).bind fun ys _ => optR (neLE xs ys) G2 := rfl
theorem q_v_setI {o k e : Sx E} : qSetI o k e ρ H = (e ρ H).st ρ fun v G1 => (o ρ G1).st ρ fun x G2 => (k ρ G2).st ρ fun y G3 => match x, y with
  | .ref n, .int i => (match G3[n]? with
    | some (.lst xs) => (match ixN xs.length i with
      | some j => .nx ρ (G3.set n (.lst (xs.set j v)))
      | none => .bad)
    | _ => .bad)
  | _, _ => .bad := rfl
theorem q_v_setA {o e : Sx E} {f : Str} : qSetA P o f e ρ H = (e ρ H).st ρ fun v G1 => (o ρ G1).st ρ fun x G2 => match setAtt P x f v G2 with
  | some G3 => .nx ρ G3
  | none => .bad := rfl
theorem q_v_augA {o : BOp} {a e : Sx E} {f : Str} : qAugA P o a f e ρ H = (a ρ H).st ρ fun x G1 => (optR (attrE P G1 f x) G1).st ρ fun u _ => (e ρ G1).st ρ fun y G2 => (optR (augop o u y) G2).st ρ fun z _ => if clsE G1 x = clsE G2 x then (match setAtt P x f z G2 with
  | some G3 => .nx ρ G3
  | none => .bad) else .bad := rfl
theorem q_v_parA {o1 o2 e1 e2 : Sx E} {f1 f2 : Str} : qParA P o1 f1 o2 f2 e1 e2 ρ H = (e1 ρ H).st ρ fun v G1 => (e2 ρ G1).st ρ fun w G2 => (o1 ρ G2).st ρ fun x G3 => match setAtt P x f1 v G3 with
  | some G4 => (o2 ρ G4).st ρ fun y G5 => (match setAtt P y f2 w G5 with
    | some G6 => .nx ρ G6
    | none => .bad)
  | none => .bad := rfl
end
end Lt
end
section
set_option Elab.async false
set_option linter.all false
set_option maxRecDepth 100000
set_option maxHeartbeats 0
/-! The program, what the head tells, the end. Printed by inst.py. -/
namespace K02
open PySem PySem.Spec PyProof.Rows L2 Lt
def top (i : Nat) : Stmt := PySem.Challenge.pw_nothinglost_k02_disks_that_lose.main.body.getD i (.Pass ⟨0, 0, 0, 0⟩)
def mtop (i j : Nat) : Stmt := (cBody (top i)).getD j (.Pass ⟨0, 0, 0, 0⟩)
def sc0 : Scope := { kind := .function, names := [(".0", .local), ("cell", .local), ("abs", .globalImplicit), ("int", .globalImplicit)], isGenerator := false, isCoroutine := false, more := [] }
def sc1 : Scope := { kind := .function, names := [("disk", .free)], isGenerator := false, isCoroutine := false, more := [] }
def sc2 : Scope := { kind := .function, names := [(".0", .local), ("own", .local), ("files", .free), ("other", .free)], isGenerator := false, isCoroutine := false, more := [] }
def sc3 : Scope := { kind := .function, names := [(".0", .local), ("own", .local), ("len", .globalImplicit), ("disk", .free), ("seen", .free)], isGenerator := false, isCoroutine := false, more := [] }
def sc4 : Scope := { kind := .function, names := [(".0", .local), ("k", .local), ("_law_take", .globalImplicit), ("tape", .free)], isGenerator := false, isCoroutine := false, more := [] }
def sc5 : Scope := { kind := .function, names := [(".0", .local), ("deed", .local), ("name", .free)], isGenerator := false, isCoroutine := false, more := [] }
def sc6 : Scope := { kind := .function, names := [(".0", .local), ("kind", .local), ("own", .local), ("place", .local), ("row", .local), ("len", .globalImplicit), ("pieces_of", .globalImplicit)], isGenerator := false, isCoroutine := false, more := [] }
def sc7 : Scope := { kind := .function, names := [(".0", .local), ("a", .local)], isGenerator := false, isCoroutine := false, more := [] }
def sc8 : Scope := { kind := .function, names := [(".0", .local), ("kind", .local), ("_", .local), ("place", .local), ("row", .local), ("len", .globalImplicit), ("pieces_of", .globalImplicit)], isGenerator := false, isCoroutine := false, more := [] }
def b0_0 : Ex := (.cmp .lt (.var 3 "at" ⟨100, 10, 100, 12⟩) (.bi1 .len (.var 1 "row" ⟨100, 19, 100, 22⟩) ⟨100, 15, 100, 18⟩ ⟨100, 15, 100, 23⟩) ⟨100, 10, 100, 23⟩)
def b0_1 : Stms := (.cons (.asg (.name ⟨4, "size", ⟨101, 8, 101, 12⟩⟩) (.min2 (.bin .sub (.bi1 .len (.var 1 "row" ⟨101, 23, 101, 26⟩) ⟨101, 19, 101, 22⟩ ⟨101, 19, 101, 27⟩) (.var 3 "at" ⟨101, 30, 101, 32⟩) ⟨101, 19, 101, 32⟩) (.bin .sub (.glb 0 "SECTOR" ⟨101, 34, 101, 40⟩) (.bin .mod (.bin .add (.var 0 "place" ⟨101, 44, 101, 49⟩) (.var 3 "at" ⟨101, 52, 101, 54⟩) ⟨101, 44, 101, 54⟩) (.glb 0 "SECTOR" ⟨101, 58, 101, 64⟩) ⟨101, 43, 101, 64⟩) ⟨101, 34, 101, 64⟩) ⟨101, 15, 101, 18⟩ ⟨101, 15, 101, 65⟩) ⟨101, 8, 101, 65⟩) (.cons (.app (.var 2 "found" ⟨102, 8, 102, 13⟩) (.tup (.cons (.bin .add (.var 0 "place" ⟨102, 22, 102, 27⟩) (.var 3 "at" ⟨102, 30, 102, 32⟩) ⟨102, 22, 102, 32⟩) (.cons (.slice (.var 1 "row" ⟨102, 34, 102, 37⟩) (.some (.var 3 "at" ⟨102, 38, 102, 40⟩)) (.some (.bin .add (.var 3 "at" ⟨102, 41, 102, 43⟩) (.var 4 "size" ⟨102, 46, 102, 50⟩) ⟨102, 41, 102, 50⟩)) ⟨102, 38, 102, 50⟩ ⟨102, 34, 102, 51⟩) .nil)) 0 ⟨102, 21, 102, 52⟩) ⟨102, 8, 102, 20⟩ ⟨102, 8, 102, 53⟩ ⟨102, 8, 102, 53⟩) (.cons (.aug .add ⟨3, "at", ⟨103, 8, 103, 10⟩⟩ (.var 4 "size" ⟨103, 14, 103, 18⟩) ⟨103, 8, 103, 18⟩) .nil)))
def b0 : Stms := (.cons (.par ⟨2, "found", ⟨99, 4, 99, 9⟩⟩ ⟨3, "at", ⟨99, 11, 99, 13⟩⟩ (.new (.disp .nil ⟨99, 17, 99, 19⟩)) (.int 0 0 ⟨99, 21, 99, 22⟩) 0 0 ⟨99, 4, 99, 13⟩ ⟨99, 16, 99, 23⟩ ⟨99, 4, 99, 23⟩) (.cons (.whil b0_0 b0_1 ⟨100, 4, 103, 18⟩) (.cons (.ret (.var 2 "found" ⟨104, 11, 104, 16⟩) ⟨104, 4, 104, 16⟩) .nil)))
def N0 : List Str := [("place" : Str), ("row" : Str), ("found" : Str), ("at" : Str), ("size" : Str)]
def f0 : Fn := ⟨2, 5, false, b0⟩
def b1 : Stms := (.cons (.asg (.name ⟨5, "found", ⟨106, 4, 106, 9⟩⟩) (.dcp (.var 0 "files" ⟨106, 17, 106, 22⟩) ⟨106, 12, 106, 16⟩ ⟨106, 12, 106, 23⟩) ⟨106, 4, 106, 23⟩) (.cons (.ifs (.cmp .eq (.var 1 "kind" ⟨107, 7, 107, 11⟩) (.str "remove" 0 ⟨107, 15, 107, 23⟩) ⟨107, 7, 107, 23⟩) (.cons (.expr (.dpop (.var 5 "found" ⟨108, 8, 108, 13⟩) (.var 2 "name" ⟨108, 18, 108, 22⟩) (.non 0 ⟨108, 24, 108, 28⟩) ⟨108, 8, 108, 17⟩ ⟨108, 8, 108, 29⟩) ⟨108, 8, 108, 29⟩) .nil) (.cons (.ifs (.cmp .eq (.var 1 "kind" ⟨109, 9, 109, 13⟩) (.str "cut" 0 ⟨109, 17, 109, 22⟩) ⟨109, 9, 109, 22⟩) (.cons (.setD (.var 5 "found" ⟨110, 8, 110, 13⟩) (.var 2 "name" ⟨110, 14, 110, 18⟩) (.slice (.dget (.var 5 "found" ⟨110, 22, 110, 27⟩) (.var 2 "name" ⟨110, 32, 110, 36⟩) (.tup .nil 0 ⟨110, 38, 110, 40⟩) ⟨110, 22, 110, 31⟩ ⟨110, 22, 110, 41⟩) .none (.some (.var 3 "place" ⟨110, 43, 110, 48⟩)) ⟨110, 42, 110, 48⟩ ⟨110, 22, 110, 49⟩) ⟨110, 8, 110, 19⟩ ⟨110, 8, 110, 49⟩) .nil) (.cons (.asg (.name ⟨6, "old", ⟨112, 8, 112, 11⟩⟩) (.dget (.var 5 "found" ⟨112, 14, 112, 19⟩) (.var 2 "name" ⟨112, 24, 112, 28⟩) (.tup .nil 0 ⟨112, 30, 112, 32⟩) ⟨112, 14, 112, 23⟩ ⟨112, 14, 112, 33⟩) ⟨112, 8, 112, 33⟩) (.cons (.setD (.var 5 "found" ⟨113, 8, 113, 13⟩) (.var 2 "name" ⟨113, 14, 113, 18⟩) (.bin .add (.bin .add (.slice (.var 6 "old" ⟨113, 22, 113, 25⟩) .none (.some (.var 3 "place" ⟨113, 27, 113, 32⟩)) ⟨113, 26, 113, 32⟩ ⟨113, 22, 113, 33⟩) (.var 4 "row" ⟨113, 36, 113, 39⟩) ⟨113, 22, 113, 39⟩) (.slice (.var 6 "old" ⟨113, 42, 113, 45⟩) (.some (.bin .add (.var 3 "place" ⟨113, 46, 113, 51⟩) (.bi1 .len (.var 4 "row" ⟨113, 58, 113, 61⟩) ⟨113, 54, 113, 57⟩ ⟨113, 54, 113, 62⟩) ⟨113, 46, 113, 62⟩)) .none ⟨113, 46, 113, 63⟩ ⟨113, 42, 113, 64⟩) ⟨113, 22, 113, 64⟩) ⟨113, 8, 113, 19⟩ ⟨113, 8, 113, 64⟩) .nil)) ⟨109, 4, 113, 64⟩) .nil) ⟨107, 4, 113, 64⟩) (.cons (.ifs (.cmp .gt (.bi1 .len (.var 5 "found" ⟨114, 11, 114, 16⟩) ⟨114, 7, 114, 10⟩ ⟨114, 7, 114, 17⟩) (.glb 1 "MOST_FILES" ⟨114, 20, 114, 30⟩) ⟨114, 7, 114, 30⟩) (.cons (.rais 0 "InvalidDisk" "there are too many files" 0 ⟨115, 14, 115, 25⟩ ⟨115, 26, 115, 52⟩ ⟨115, 14, 115, 53⟩ ⟨115, 8, 115, 53⟩) .nil) .nil ⟨114, 4, 115, 53⟩) (.cons (.ret (.var 5 "found" ⟨116, 11, 116, 16⟩) ⟨116, 4, 116, 16⟩) .nil))))
def N1 : List Str := [("files" : Str), ("kind" : Str), ("name" : Str), ("place" : Str), ("row" : Str), ("found" : Str), ("old" : Str)]
def f1 : Fn := ⟨5, 7, false, b1⟩
def b2_0 : Stms := (.cons (.asg (.name ⟨3, "seed", ⟨122, 8, 122, 12⟩⟩) (.bin .mod (.bi1 .int (.bin .add (.bin .mul (.var 3 "seed" ⟨122, 19, 122, 23⟩) (.int 31 0 ⟨122, 26, 122, 28⟩) ⟨122, 19, 122, 28⟩) (.var 1 "cell" ⟨122, 31, 122, 35⟩) ⟨122, 19, 122, 35⟩) ⟨122, 15, 122, 18⟩ ⟨122, 15, 122, 36⟩) (.int 2147483647 0 ⟨122, 39, 122, 49⟩) ⟨122, 15, 122, 49⟩) ⟨122, 8, 122, 49⟩) .nil)
def b2_1 : Ex := (.bi1 .abs (.bi1 .int (.var 1 "cell" ⟨119, 21, 119, 25⟩) ⟨119, 17, 119, 20⟩ ⟨119, 17, 119, 26⟩) ⟨119, 13, 119, 16⟩ ⟨119, 13, 119, 27⟩)
def b2 : Stms := (.cons (.asgL ⟨2, "cells", ⟨119, 4, 119, 9⟩⟩ (.lc b2_1 (.name ⟨1, "cell", ⟨119, 32, 119, 36⟩⟩) (.a (.var 0 "script" ⟨119, 40, 119, 46⟩)) .none sc0 [(".0", 4), ("cell", 1)] ⟨119, 12, 119, 47⟩) ⟨119, 4, 119, 47⟩) (.cons (.asg (.name ⟨3, "seed", ⟨120, 4, 120, 8⟩⟩) (.int 7 0 ⟨120, 11, 120, 12⟩) ⟨120, 4, 120, 12⟩) (.cons (.forr (.name ⟨1, "cell", ⟨121, 8, 121, 12⟩⟩) (.a (.var 2 "cells" ⟨121, 16, 121, 21⟩)) b2_0 ⟨121, 4, 122, 49⟩) (.cons (.ret (.dct [("cells", 0, ⟨123, 12, 123, 19⟩), ("at", 0, ⟨123, 28, 123, 32⟩), ("left", 0, ⟨123, 37, 123, 43⟩), ("seed", 0, ⟨123, 48, 123, 54⟩), ("salt", 0, ⟨123, 62, 123, 68⟩)] (.cons (.var 2 "cells" ⟨123, 21, 123, 26⟩) (.cons (.int 0 0 ⟨123, 34, 123, 35⟩) (.cons (.int 0 0 ⟨123, 45, 123, 46⟩) (.cons (.var 3 "seed" ⟨123, 56, 123, 60⟩) (.cons (.int 0 0 ⟨123, 70, 123, 71⟩) .nil))))) ⟨123, 11, 123, 72⟩) ⟨123, 4, 123, 72⟩) .nil))))
def N2 : List Str := [("script" : Str), ("cell" : Str), ("cells" : Str), ("seed" : Str), (".0" : Str)]
def f2 : Fn := ⟨1, 5, false, b2⟩
def b3 : Stms := (.cons (.ifs (.and (.cons (.cmp .eq (.sub (.var 0 "tape" ⟨125, 7, 125, 11⟩) (.str "left" 0 ⟨125, 12, 125, 18⟩) ⟨125, 7, 125, 19⟩) (.int 0 0 ⟨125, 23, 125, 24⟩) ⟨125, 7, 125, 24⟩) (.cons (.cmp .lt (.sub (.var 0 "tape" ⟨125, 29, 125, 33⟩) (.str "at" 0 ⟨125, 34, 125, 38⟩) ⟨125, 29, 125, 39⟩) (.bi1 .len (.sub (.var 0 "tape" ⟨125, 46, 125, 50⟩) (.str "cells" 0 ⟨125, 51, 125, 58⟩) ⟨125, 46, 125, 59⟩) ⟨125, 42, 125, 45⟩ ⟨125, 42, 125, 60⟩) ⟨125, 29, 125, 60⟩) .nil)) ⟨125, 7, 125, 60⟩) (.cons (.setD (.var 0 "tape" ⟨126, 8, 126, 12⟩) (.str "left" 0 ⟨126, 13, 126, 19⟩) (.sub (.sub (.var 0 "tape" ⟨126, 23, 126, 27⟩) (.str "cells" 0 ⟨126, 28, 126, 35⟩) ⟨126, 23, 126, 36⟩) (.sub (.var 0 "tape" ⟨126, 37, 126, 41⟩) (.str "at" 0 ⟨126, 42, 126, 46⟩) ⟨126, 37, 126, 47⟩) ⟨126, 23, 126, 48⟩) ⟨126, 8, 126, 20⟩ ⟨126, 8, 126, 48⟩) (.cons (.setD (.var 0 "tape" ⟨127, 8, 127, 12⟩) (.str "at" 0 ⟨127, 13, 127, 17⟩) (.bin .add (.sub (.var 0 "tape" ⟨127, 21, 127, 25⟩) (.str "at" 0 ⟨127, 26, 127, 30⟩) ⟨127, 21, 127, 31⟩) (.int 1 0 ⟨127, 34, 127, 35⟩) ⟨127, 21, 127, 35⟩) ⟨127, 8, 127, 18⟩ ⟨127, 8, 127, 35⟩) .nil)) .nil ⟨125, 4, 127, 35⟩) (.cons (.ifs (.cmp .gt (.sub (.var 0 "tape" ⟨128, 7, 128, 11⟩) (.str "left" 0 ⟨128, 12, 128, 18⟩) ⟨128, 7, 128, 19⟩) (.int 0 0 ⟨128, 22, 128, 23⟩) ⟨128, 7, 128, 23⟩) (.cons (.asg (.name ⟨2, "drawn", ⟨129, 8, 129, 13⟩⟩) (.bin .mod (.bi1 .int (.sub (.var 0 "tape" ⟨129, 20, 129, 24⟩) (.str "left" 0 ⟨129, 25, 129, 31⟩) ⟨129, 20, 129, 32⟩) ⟨129, 16, 129, 19⟩ ⟨129, 16, 129, 33⟩) (.var 1 "many" ⟨129, 36, 129, 40⟩) ⟨129, 16, 129, 40⟩) ⟨129, 8, 129, 40⟩) (.cons (.setD (.var 0 "tape" ⟨130, 8, 130, 12⟩) (.str "left" 0 ⟨130, 13, 130, 19⟩) (.bin .fdiv (.sub (.var 0 "tape" ⟨130, 23, 130, 27⟩) (.str "left" 0 ⟨130, 28, 130, 34⟩) ⟨130, 23, 130, 35⟩) (.var 1 "many" ⟨130, 39, 130, 43⟩) ⟨130, 23, 130, 43⟩) ⟨130, 8, 130, 20⟩ ⟨130, 8, 130, 43⟩) (.cons (.ret (.var 2 "drawn" ⟨131, 15, 131, 20⟩) ⟨131, 8, 131, 20⟩) .nil))) .nil ⟨128, 4, 131, 20⟩) (.cons (.setD (.var 0 "tape" ⟨132, 4, 132, 8⟩) (.str "salt" 0 ⟨132, 9, 132, 15⟩) (.bin .add (.sub (.var 0 "tape" ⟨132, 19, 132, 23⟩) (.str "salt" 0 ⟨132, 24, 132, 30⟩) ⟨132, 19, 132, 31⟩) (.int 1 0 ⟨132, 34, 132, 35⟩) ⟨132, 19, 132, 35⟩) ⟨132, 4, 132, 16⟩ ⟨132, 4, 132, 35⟩) (.cons (.asg (.name ⟨3, "mixed", ⟨133, 4, 133, 9⟩⟩) (.bin .mod (.bi1 .int (.bin .add (.bin .mul (.sub (.var 0 "tape" ⟨133, 16, 133, 20⟩) (.str "seed" 0 ⟨133, 21, 133, 27⟩) ⟨133, 16, 133, 28⟩) (.int 48271 0 ⟨133, 31, 133, 36⟩) ⟨133, 16, 133, 36⟩) (.bin .mul (.sub (.var 0 "tape" ⟨133, 39, 133, 43⟩) (.str "salt" 0 ⟨133, 44, 133, 50⟩) ⟨133, 39, 133, 51⟩) (.int 69621 0 ⟨133, 54, 133, 59⟩) ⟨133, 39, 133, 59⟩) ⟨133, 16, 133, 59⟩) ⟨133, 12, 133, 15⟩ ⟨133, 12, 133, 60⟩) (.int 2147483647 0 ⟨133, 63, 133, 73⟩) ⟨133, 12, 133, 73⟩) ⟨133, 4, 133, 73⟩) (.cons (.asg (.name ⟨3, "mixed", ⟨134, 4, 134, 9⟩⟩) (.bin .mod (.bi1 .int (.bin .add (.bin .add (.bin .mul (.var 3 "mixed" ⟨134, 16, 134, 21⟩) (.var 3 "mixed" ⟨134, 24, 134, 29⟩) ⟨134, 16, 134, 29⟩) (.bin .mul (.sub (.var 0 "tape" ⟨134, 32, 134, 36⟩) (.str "salt" 0 ⟨134, 37, 134, 43⟩) ⟨134, 32, 134, 44⟩) (.int 40692 0 ⟨134, 47, 134, 52⟩) ⟨134, 32, 134, 52⟩) ⟨134, 16, 134, 52⟩) (.int 12345 0 ⟨134, 55, 134, 60⟩) ⟨134, 16, 134, 60⟩) ⟨134, 12, 134, 15⟩ ⟨134, 12, 134, 61⟩) (.int 2147483399 0 ⟨134, 64, 134, 74⟩) ⟨134, 12, 134, 74⟩) ⟨134, 4, 134, 74⟩) (.cons (.ret (.bin .mod (.bi1 .int (.var 3 "mixed" ⟨135, 15, 135, 20⟩) ⟨135, 11, 135, 14⟩ ⟨135, 11, 135, 21⟩) (.var 1 "many" ⟨135, 24, 135, 28⟩) ⟨135, 11, 135, 28⟩) ⟨135, 4, 135, 28⟩) .nil))))))
def N3 : List Str := [("tape" : Str), ("many" : Str), ("drawn" : Str), ("mixed" : Str)]
def f3 : Fn := ⟨2, 4, false, b3⟩
def b4_0 : Stms := (.cons (.ifs (.cmp .lt (.bin .add (.var 4 "place" ⟨152, 15, 152, 20⟩) (.var 8 "k" ⟨152, 23, 152, 24⟩) ⟨152, 15, 152, 24⟩) (.bi1 .len (.var 7 "old" ⟨152, 31, 152, 34⟩) ⟨152, 27, 152, 30⟩ ⟨152, 27, 152, 35⟩) ⟨152, 15, 152, 35⟩) (.cons (.setI (.var 7 "old" ⟨153, 16, 153, 19⟩) (.bin .add (.var 4 "place" ⟨153, 20, 153, 25⟩) (.var 8 "k" ⟨153, 28, 153, 29⟩) ⟨153, 20, 153, 29⟩) (.sub (.var 5 "row" ⟨153, 33, 153, 36⟩) (.var 8 "k" ⟨153, 37, 153, 38⟩) ⟨153, 33, 153, 39⟩) ⟨153, 16, 153, 30⟩ ⟨153, 16, 153, 39⟩) .nil) (.cons (.app (.var 7 "old" ⟨155, 16, 155, 19⟩) (.sub (.var 5 "row" ⟨155, 27, 155, 30⟩) (.var 8 "k" ⟨155, 31, 155, 32⟩) ⟨155, 27, 155, 33⟩) ⟨155, 16, 155, 26⟩ ⟨155, 16, 155, 34⟩ ⟨155, 16, 155, 34⟩) .nil) ⟨152, 12, 155, 34⟩) .nil)
def b4 : Stms := (.cons (.asg (.tup [⟨2, "kind", ⟨143, 4, 143, 8⟩⟩, ⟨3, "name", ⟨143, 10, 143, 14⟩⟩, ⟨4, "place", ⟨143, 16, 143, 21⟩⟩, ⟨5, "row", ⟨143, 23, 143, 26⟩⟩] 0 ⟨143, 4, 143, 26⟩) (.var 1 "deed" ⟨143, 29, 143, 33⟩) ⟨143, 4, 143, 33⟩) (.cons (.asg (.name ⟨6, "found", ⟨144, 4, 144, 9⟩⟩) (.dcp (.var 0 "files" ⟨144, 17, 144, 22⟩) ⟨144, 12, 144, 16⟩ ⟨144, 12, 144, 23⟩) ⟨144, 4, 144, 23⟩) (.cons (.ifs (.cmp .eq (.var 2 "kind" ⟨145, 7, 145, 11⟩) (.str "remove" 0 ⟨145, 15, 145, 23⟩) ⟨145, 7, 145, 23⟩) (.cons (.expr (.dpop (.var 6 "found" ⟨146, 8, 146, 13⟩) (.var 3 "name" ⟨146, 18, 146, 22⟩) (.non 0 ⟨146, 24, 146, 28⟩) ⟨146, 8, 146, 17⟩ ⟨146, 8, 146, 29⟩) ⟨146, 8, 146, 29⟩) .nil) (.cons (.ifs (.cmp .eq (.var 2 "kind" ⟨147, 9, 147, 13⟩) (.str "cut" 0 ⟨147, 17, 147, 22⟩) ⟨147, 9, 147, 22⟩) (.cons (.setD (.var 6 "found" ⟨148, 8, 148, 13⟩) (.var 3 "name" ⟨148, 14, 148, 18⟩) (.slice (.dget (.var 6 "found" ⟨148, 22, 148, 27⟩) (.var 3 "name" ⟨148, 32, 148, 36⟩) (.tup .nil 0 ⟨148, 38, 148, 40⟩) ⟨148, 22, 148, 31⟩ ⟨148, 22, 148, 41⟩) .none (.some (.var 4 "place" ⟨148, 43, 148, 48⟩)) ⟨148, 42, 148, 48⟩ ⟨148, 22, 148, 49⟩) ⟨148, 8, 148, 19⟩ ⟨148, 8, 148, 49⟩) .nil) (.cons (.asgL ⟨7, "old", ⟨150, 8, 150, 11⟩⟩ (.listT (.dget (.var 6 "found" ⟨150, 19, 150, 24⟩) (.var 3 "name" ⟨150, 29, 150, 33⟩) (.tup .nil 0 ⟨150, 35, 150, 37⟩) ⟨150, 19, 150, 28⟩ ⟨150, 19, 150, 38⟩) ⟨150, 14, 150, 18⟩ ⟨150, 14, 150, 39⟩) ⟨150, 8, 150, 39⟩) (.cons (.forr (.name ⟨8, "k", ⟨151, 12, 151, 13⟩⟩) (.r1 (.bi1 .len (.var 5 "row" ⟨151, 27, 151, 30⟩) ⟨151, 23, 151, 26⟩ ⟨151, 23, 151, 31⟩) ⟨151, 17, 151, 22⟩ ⟨151, 17, 151, 32⟩) b4_0 ⟨151, 8, 155, 34⟩) (.cons (.setD (.var 6 "found" ⟨156, 8, 156, 13⟩) (.var 3 "name" ⟨156, 14, 156, 18⟩) (.biL .tup (.ofE (.var 7 "old" ⟨156, 28, 156, 31⟩)) ⟨156, 22, 156, 27⟩ ⟨156, 22, 156, 32⟩) ⟨156, 8, 156, 19⟩ ⟨156, 8, 156, 32⟩) .nil))) ⟨147, 4, 156, 32⟩) .nil) ⟨145, 4, 156, 32⟩) (.cons (.ret (.var 6 "found" ⟨157, 11, 157, 16⟩) ⟨157, 4, 157, 16⟩) .nil))))
def N4 : List Str := [("files" : Str), ("deed" : Str), ("kind" : Str), ("name" : Str), ("place" : Str), ("row" : Str), ("found" : Str), ("old" : Str), ("k" : Str)]
def f4 : Fn := ⟨2, 9, false, b4⟩
def b5_0 : Stms := (.cons (.asg (.name ⟨0, "files", ⟨160, 8, 160, 13⟩⟩) (.call 4 "_law_done" (.cons (.var 0 "files" ⟨160, 26, 160, 31⟩) (.cons (.var 2 "deed" ⟨160, 33, 160, 37⟩) .nil)) ⟨160, 16, 160, 25⟩ ⟨160, 16, 160, 38⟩) ⟨160, 8, 160, 38⟩) .nil)
def b5 : Stms := (.cons (.forr (.name ⟨2, "deed", ⟨159, 8, 159, 12⟩⟩) (.a (.var 1 "waiting" ⟨159, 16, 159, 23⟩)) b5_0 ⟨159, 4, 160, 38⟩) (.cons (.ret (.var 0 "files" ⟨161, 11, 161, 16⟩) ⟨161, 4, 161, 16⟩) .nil))
def N5 : List Str := [("files" : Str), ("waiting" : Str), ("deed" : Str)]
def f5 : Fn := ⟨2, 3, false, b5⟩
def b6_0 : Stms := (.cons (.asg (.name ⟨12, "kept", ⟨174, 12, 174, 16⟩⟩) (.and (.cons (.cmp .lt (.var 3 "at" ⟨174, 19, 174, 21⟩) (.bi1 .len (.var 2 "picks" ⟨174, 28, 174, 33⟩) ⟨174, 24, 174, 27⟩ ⟨174, 24, 174, 34⟩) ⟨174, 19, 174, 34⟩) (.cons (.cmp .eq (.bin .mod (.bi1 .int (.sub (.var 2 "picks" ⟨174, 43, 174, 48⟩) (.var 3 "at" ⟨174, 49, 174, 51⟩) ⟨174, 43, 174, 52⟩) ⟨174, 39, 174, 42⟩ ⟨174, 39, 174, 53⟩) (.int 2 0 ⟨174, 56, 174, 57⟩) ⟨174, 39, 174, 57⟩) (.int 1 0 ⟨174, 61, 174, 62⟩) ⟨174, 39, 174, 62⟩) .nil)) ⟨174, 19, 174, 62⟩) ⟨174, 12, 174, 62⟩) (.cons (.asg (.name ⟨3, "at", ⟨175, 12, 175, 14⟩⟩) (.bin .add (.var 3 "at" ⟨175, 17, 175, 19⟩) (.int 1 0 ⟨175, 22, 175, 23⟩) ⟨175, 17, 175, 23⟩) ⟨175, 12, 175, 23⟩) (.cons (.ifs (.and (.cons (.var 12 "kept" ⟨176, 15, 176, 19⟩) (.cons (.or (.cons (.cmp .eq (.var 4 "kind" ⟨176, 25, 176, 29⟩) (.str "remove" 0 ⟨176, 33, 176, 41⟩) ⟨176, 25, 176, 41⟩) (.cons (.cmp .le (.var 9 "begin" ⟨176, 45, 176, 50⟩) (.bi1 .len (.dget (.var 0 "files" ⟨176, 58, 176, 63⟩) (.var 5 "name" ⟨176, 68, 176, 72⟩) (.tup .nil 0 ⟨176, 74, 176, 76⟩) ⟨176, 58, 176, 67⟩ ⟨176, 58, 176, 77⟩) ⟨176, 54, 176, 57⟩ ⟨176, 54, 176, 78⟩) ⟨176, 45, 176, 78⟩) .nil)) ⟨176, 25, 176, 78⟩) .nil)) ⟨176, 15, 176, 79⟩) (.cons (.asg (.name ⟨0, "files", ⟨177, 16, 177, 21⟩⟩) (.call 4 "_law_done" (.cons (.var 0 "files" ⟨177, 34, 177, 39⟩) (.cons (.tup (.cons (.var 4 "kind" ⟨177, 42, 177, 46⟩) (.cons (.var 5 "name" ⟨177, 48, 177, 52⟩) (.cons (.var 9 "begin" ⟨177, 54, 177, 59⟩) (.cons (.var 11 "part" ⟨177, 61, 177, 65⟩) .nil)))) 0 ⟨177, 41, 177, 66⟩) .nil)) ⟨177, 24, 177, 33⟩ ⟨177, 24, 177, 67⟩) ⟨177, 16, 177, 67⟩) .nil) .nil ⟨176, 12, 177, 67⟩) .nil)))
def b6_1 : Ex := (.cmp .lt (.var 9 "begin" ⟨167, 18, 167, 23⟩) (.bin .add (.var 6 "place" ⟨167, 26, 167, 31⟩) (.bi1 .len (.var 7 "row" ⟨167, 38, 167, 41⟩) ⟨167, 34, 167, 37⟩ ⟨167, 34, 167, 42⟩) ⟨167, 26, 167, 42⟩) ⟨167, 18, 167, 42⟩)
def b6_2 : Stms := (.cons (.asg (.name ⟨10, "end", ⟨168, 16, 168, 19⟩⟩) (.min2 (.bin .add (.var 6 "place" ⟨168, 26, 168, 31⟩) (.bi1 .len (.var 7 "row" ⟨168, 38, 168, 41⟩) ⟨168, 34, 168, 37⟩ ⟨168, 34, 168, 42⟩) ⟨168, 26, 168, 42⟩) (.bin .add (.bin .mul (.glb 0 "SECTOR" ⟨168, 44, 168, 50⟩) (.bin .fdiv (.var 9 "begin" ⟨168, 54, 168, 59⟩) (.glb 0 "SECTOR" ⟨168, 63, 168, 69⟩) ⟨168, 54, 168, 69⟩) ⟨168, 44, 168, 70⟩) (.glb 0 "SECTOR" ⟨168, 73, 168, 79⟩) ⟨168, 44, 168, 79⟩) ⟨168, 22, 168, 25⟩ ⟨168, 22, 168, 80⟩) ⟨168, 16, 168, 80⟩) (.cons (.app (.var 8 "pieces" ⟨169, 16, 169, 22⟩) (.tup (.cons (.var 9 "begin" ⟨169, 31, 169, 36⟩) (.cons (.slice (.var 7 "row" ⟨169, 38, 169, 41⟩) (.some (.bin .sub (.var 9 "begin" ⟨169, 42, 169, 47⟩) (.var 6 "place" ⟨169, 50, 169, 55⟩) ⟨169, 42, 169, 55⟩)) (.some (.bin .sub (.var 10 "end" ⟨169, 56, 169, 59⟩) (.var 6 "place" ⟨169, 62, 169, 67⟩) ⟨169, 56, 169, 67⟩)) ⟨169, 42, 169, 67⟩ ⟨169, 38, 169, 68⟩) .nil)) 0 ⟨169, 30, 169, 69⟩) ⟨169, 16, 169, 29⟩ ⟨169, 16, 169, 70⟩ ⟨169, 16, 169, 70⟩) (.cons (.asg (.name ⟨9, "begin", ⟨170, 16, 170, 21⟩⟩) (.var 10 "end" ⟨170, 24, 170, 27⟩) ⟨170, 16, 170, 27⟩) .nil)))
def b6_3 : Stms := (.cons (.par ⟨8, "pieces", ⟨165, 8, 165, 14⟩⟩ ⟨9, "begin", ⟨165, 16, 165, 21⟩⟩ (.new (.disp .nil ⟨165, 25, 165, 27⟩)) (.var 6 "place" ⟨165, 29, 165, 34⟩) 0 0 ⟨165, 8, 165, 21⟩ ⟨165, 24, 165, 35⟩ ⟨165, 8, 165, 35⟩) (.cons (.ifs (.cmp .eq (.var 4 "kind" ⟨166, 11, 166, 15⟩) (.str "write" 0 ⟨166, 19, 166, 26⟩) ⟨166, 11, 166, 26⟩) (.cons (.whil b6_1 b6_2 ⟨167, 12, 170, 27⟩) .nil) (.cons (.app (.var 8 "pieces" ⟨172, 12, 172, 18⟩) (.tup (.cons (.var 6 "place" ⟨172, 27, 172, 32⟩) (.cons (.var 7 "row" ⟨172, 34, 172, 37⟩) .nil)) 0 ⟨172, 26, 172, 38⟩) ⟨172, 12, 172, 25⟩ ⟨172, 12, 172, 39⟩ ⟨172, 12, 172, 39⟩) .nil) ⟨166, 8, 172, 39⟩) (.cons (.forr (.tup [⟨9, "begin", ⟨173, 12, 173, 17⟩⟩, ⟨11, "part", ⟨173, 19, 173, 23⟩⟩] 0 ⟨173, 12, 173, 23⟩) (.a (.var 8 "pieces" ⟨173, 27, 173, 33⟩)) b6_0 ⟨173, 8, 177, 67⟩) .nil)))
def b6 : Stms := (.cons (.asg (.name ⟨3, "at", ⟨163, 4, 163, 6⟩⟩) (.int 0 0 ⟨163, 9, 163, 10⟩) ⟨163, 4, 163, 10⟩) (.cons (.forr (.tup [⟨4, "kind", ⟨164, 8, 164, 12⟩⟩, ⟨5, "name", ⟨164, 14, 164, 18⟩⟩, ⟨6, "place", ⟨164, 20, 164, 25⟩⟩, ⟨7, "row", ⟨164, 27, 164, 30⟩⟩] 0 ⟨164, 8, 164, 30⟩) (.a (.var 1 "waiting" ⟨164, 34, 164, 41⟩)) b6_3 ⟨164, 4, 177, 67⟩) (.cons (.ret (.var 0 "files" ⟨178, 11, 178, 16⟩) ⟨178, 4, 178, 16⟩) .nil)))
def N6 : List Str := [("files" : Str), ("waiting" : Str), ("picks" : Str), ("at" : Str), ("kind" : Str), ("name" : Str), ("place" : Str), ("row" : Str), ("pieces" : Str), ("begin" : Str), ("end" : Str), ("part" : Str), ("kept" : Str)]
def f6 : Fn := ⟨3, 13, false, b6⟩
def b7_0 : Stms := (.cons (.expr (.meth (.var 17 "disk" ⟨218, 12, 218, 16⟩) "write" (.cons (.str "z" 0 ⟨218, 23, 218, 26⟩) (.cons (.int 0 0 ⟨218, 28, 218, 29⟩) (.cons (.tup (.cons (.int 1 0 ⟨218, 32, 218, 33⟩) .nil) 0 ⟨218, 31, 218, 35⟩) .nil))) ⟨218, 12, 218, 22⟩ ⟨218, 12, 218, 36⟩) ⟨218, 12, 218, 36⟩) (.cons (.asg (.name ⟨16, "count", ⟨219, 12, 219, 17⟩⟩) (.bin .add (.var 16 "count" ⟨219, 20, 219, 25⟩) (.int 1 0 ⟨219, 28, 219, 29⟩) ⟨219, 20, 219, 29⟩) ⟨219, 12, 219, 29⟩) .nil))
def b7_1 : Stms := (.cons (.forr (.name ⟨11, "k", ⟨217, 12, 217, 13⟩⟩) (.r1 (.int 6 0 ⟨217, 23, 217, 24⟩) ⟨217, 17, 217, 22⟩ ⟨217, 17, 217, 25⟩) b7_0 ⟨217, 8, 219, 29⟩) .nil)
def b7_2 : Ex := (.cmp .ne (.meth (.var 14 "other" ⟨212, 16, 212, 21⟩) "read" (.cons (.var 21 "own" ⟨212, 27, 212, 30⟩) .nil) ⟨212, 16, 212, 26⟩ ⟨212, 16, 212, 31⟩) (.dget (.var 2 "files" ⟨212, 35, 212, 40⟩) (.var 21 "own" ⟨212, 45, 212, 48⟩) (.tup .nil 0 ⟨212, 50, 212, 52⟩) ⟨212, 35, 212, 44⟩ ⟨212, 35, 212, 53⟩) ⟨212, 16, 212, 53⟩)
def b7_3 : Ex := (.or (.cons (.cmp .ne (.meth (.var 17 "disk" ⟨209, 48, 209, 52⟩) "read" (.cons (.var 21 "own" ⟨209, 58, 209, 61⟩) .nil) ⟨209, 48, 209, 57⟩ ⟨209, 48, 209, 62⟩) (.dget (.var 8 "seen" ⟨209, 66, 209, 70⟩) (.var 21 "own" ⟨209, 75, 209, 78⟩) (.tup .nil 0 ⟨209, 80, 209, 82⟩) ⟨209, 66, 209, 74⟩ ⟨209, 66, 209, 83⟩) ⟨209, 48, 209, 83⟩) (.cons (.cmp .ne (.meth (.var 17 "disk" ⟨209, 87, 209, 91⟩) "size" (.cons (.var 21 "own" ⟨209, 97, 209, 100⟩) .nil) ⟨209, 87, 209, 96⟩ ⟨209, 87, 209, 101⟩) (.bi1 .len (.dget (.var 8 "seen" ⟨209, 109, 209, 113⟩) (.var 21 "own" ⟨209, 118, 209, 121⟩) (.tup .nil 0 ⟨209, 123, 209, 125⟩) ⟨209, 109, 209, 117⟩ ⟨209, 109, 209, 126⟩) ⟨209, 105, 209, 108⟩ ⟨209, 105, 209, 127⟩) ⟨209, 87, 209, 127⟩) .nil)) ⟨209, 48, 209, 127⟩)
def b7_4 : Ex := (.call 3 "_law_take" (.cons (.var 1 "tape" ⟨188, 35, 188, 39⟩) (.cons (.int 256 0 ⟨188, 41, 188, 44⟩) .nil)) ⟨188, 25, 188, 34⟩ ⟨188, 25, 188, 45⟩)
def b7_5 : Ex := (.var 19 "deed" ⟨201, 23, 201, 27⟩)
def b7_6 : Ex := (.var 19 "deed" ⟨200, 46, 200, 50⟩)
def b7_7 : Ex := (.ifx (.cmp .eq (.var 20 "kind" ⟨204, 66, 204, 70⟩) (.str "write" 0 ⟨204, 74, 204, 81⟩) ⟨204, 66, 204, 81⟩) (.bi1 .len (.call 0 "pieces_of" (.cons (.var 10 "place" ⟨204, 50, 204, 55⟩) (.cons (.var 12 "row" ⟨204, 57, 204, 60⟩) .nil)) ⟨204, 40, 204, 49⟩ ⟨204, 40, 204, 61⟩) ⟨204, 36, 204, 39⟩ ⟨204, 36, 204, 62⟩) (.int 1 0 ⟨204, 87, 204, 88⟩) ⟨204, 36, 204, 88⟩)
def b7_8 : Ex := (.call 3 "_law_take" (.cons (.var 1 "tape" ⟨203, 37, 203, 41⟩) (.cons (.int 5 0 ⟨203, 43, 203, 44⟩) .nil)) ⟨203, 27, 203, 36⟩ ⟨203, 27, 203, 45⟩)
def b7_9 : Stms := (.cons (.asg (.tup [⟨6, "name", ⟨183, 8, 183, 12⟩⟩, ⟨7, "which", ⟨183, 14, 183, 19⟩⟩] 0 ⟨183, 8, 183, 19⟩) (.tup (.cons (.subL (.disp (.cons (.str "a" 0 ⟨183, 24, 183, 27⟩) (.cons (.str "b" 0 ⟨183, 29, 183, 32⟩) (.cons (.str "c" 0 ⟨183, 34, 183, 37⟩) .nil))) ⟨183, 23, 183, 38⟩) (.call 3 "_law_take" (.cons (.var 1 "tape" ⟨183, 49, 183, 53⟩) (.cons (.int 3 0 ⟨183, 55, 183, 56⟩) .nil)) ⟨183, 39, 183, 48⟩ ⟨183, 39, 183, 57⟩) ⟨183, 23, 183, 58⟩) (.cons (.call 3 "_law_take" (.cons (.var 1 "tape" ⟨183, 70, 183, 74⟩) (.cons (.int 10 0 ⟨183, 76, 183, 78⟩) .nil)) ⟨183, 60, 183, 69⟩ ⟨183, 60, 183, 79⟩) .nil)) 0 ⟨183, 22, 183, 80⟩) ⟨183, 8, 183, 80⟩) (.cons (.asg (.name ⟨8, "seen", ⟨184, 8, 184, 12⟩⟩) (.call 5 "_law_seen" (.cons (.var 2 "files" ⟨184, 25, 184, 30⟩) (.cons (.var 3 "waiting" ⟨184, 32, 184, 39⟩) .nil)) ⟨184, 15, 184, 24⟩ ⟨184, 15, 184, 40⟩) ⟨184, 8, 184, 40⟩) (.cons (.asg (.name ⟨9, "size", ⟨185, 8, 185, 12⟩⟩) (.bi1 .len (.dget (.var 8 "seen" ⟨185, 19, 185, 23⟩) (.var 6 "name" ⟨185, 28, 185, 32⟩) (.tup .nil 0 ⟨185, 34, 185, 36⟩) ⟨185, 19, 185, 27⟩ ⟨185, 19, 185, 37⟩) ⟨185, 15, 185, 18⟩ ⟨185, 15, 185, 38⟩) ⟨185, 8, 185, 38⟩) (.cons (.ifs (.cmp .lt (.var 7 "which" ⟨186, 11, 186, 16⟩) (.int 5 0 ⟨186, 19, 186, 20⟩) ⟨186, 11, 186, 20⟩) (.cons (.asg (.name ⟨10, "place", ⟨187, 12, 187, 17⟩⟩) (.call 3 "_law_take" (.cons (.var 1 "tape" ⟨187, 30, 187, 34⟩) (.cons (.bin .add (.var 9 "size" ⟨187, 36, 187, 40⟩) (.int 1 0 ⟨187, 43, 187, 44⟩) ⟨187, 36, 187, 44⟩) .nil)) ⟨187, 20, 187, 29⟩ ⟨187, 20, 187, 45⟩) ⟨187, 12, 187, 45⟩) (.cons (.asg (.name ⟨12, "row", ⟨188, 12, 188, 15⟩⟩) (.biL .tup (.lc b7_4 (.name ⟨11, "k", ⟨188, 50, 188, 51⟩⟩) (.r1 (.call 3 "_law_take" (.cons (.var 1 "tape" ⟨188, 71, 188, 75⟩) (.cons (.int 40 0 ⟨188, 77, 188, 79⟩) .nil)) ⟨188, 61, 188, 70⟩ ⟨188, 61, 188, 80⟩) ⟨188, 55, 188, 60⟩ ⟨188, 55, 188, 81⟩) .none sc4 [(".0", 18), ("k", 11)] ⟨188, 24, 188, 82⟩) ⟨188, 18, 188, 23⟩ ⟨188, 18, 188, 83⟩) ⟨188, 12, 188, 83⟩) (.cons (.expr (.meth (.var 17 "disk" ⟨189, 12, 189, 16⟩) "write" (.cons (.var 6 "name" ⟨189, 23, 189, 27⟩) (.cons (.var 10 "place" ⟨189, 29, 189, 34⟩) (.cons (.var 12 "row" ⟨189, 36, 189, 39⟩) .nil))) ⟨189, 12, 189, 22⟩ ⟨189, 12, 189, 40⟩) ⟨189, 12, 189, 40⟩) (.cons (.par ⟨3, "waiting", ⟨190, 12, 190, 19⟩⟩ ⟨4, "steps", ⟨190, 21, 190, 26⟩⟩ (.new (.cat (.ofE (.var 3 "waiting" ⟨190, 30, 190, 37⟩)) (.disp (.cons (.tup (.cons (.str "write" 0 ⟨190, 42, 190, 49⟩) (.cons (.var 6 "name" ⟨190, 51, 190, 55⟩) (.cons (.var 10 "place" ⟨190, 57, 190, 62⟩) (.cons (.var 12 "row" ⟨190, 64, 190, 67⟩) .nil)))) 0 ⟨190, 41, 190, 68⟩) .nil) ⟨190, 40, 190, 69⟩) ⟨190, 30, 190, 69⟩)) (.bin .add (.var 4 "steps" ⟨190, 71, 190, 76⟩) (.int 1 0 ⟨190, 79, 190, 80⟩) ⟨190, 71, 190, 80⟩) 0 0 ⟨190, 12, 190, 26⟩ ⟨190, 29, 190, 81⟩ ⟨190, 12, 190, 81⟩) .nil)))) (.cons (.ifs (.cmp .eq (.var 7 "which" ⟨191, 13, 191, 18⟩) (.int 5 0 ⟨191, 22, 191, 23⟩) ⟨191, 13, 191, 23⟩) (.cons (.asg (.name ⟨10, "place", ⟨192, 12, 192, 17⟩⟩) (.call 3 "_law_take" (.cons (.var 1 "tape" ⟨192, 30, 192, 34⟩) (.cons (.bin .add (.var 9 "size" ⟨192, 36, 192, 40⟩) (.int 1 0 ⟨192, 43, 192, 44⟩) ⟨192, 36, 192, 44⟩) .nil)) ⟨192, 20, 192, 29⟩ ⟨192, 20, 192, 45⟩) ⟨192, 12, 192, 45⟩) (.cons (.expr (.meth (.var 17 "disk" ⟨193, 12, 193, 16⟩) "cut" (.cons (.var 6 "name" ⟨193, 21, 193, 25⟩) (.cons (.var 10 "place" ⟨193, 27, 193, 32⟩) .nil)) ⟨193, 12, 193, 20⟩ ⟨193, 12, 193, 33⟩) ⟨193, 12, 193, 33⟩) (.cons (.par ⟨3, "waiting", ⟨194, 12, 194, 19⟩⟩ ⟨4, "steps", ⟨194, 21, 194, 26⟩⟩ (.new (.cat (.ofE (.var 3 "waiting" ⟨194, 30, 194, 37⟩)) (.disp (.cons (.tup (.cons (.str "cut" 0 ⟨194, 42, 194, 47⟩) (.cons (.var 6 "name" ⟨194, 49, 194, 53⟩) (.cons (.var 10 "place" ⟨194, 55, 194, 60⟩) (.cons (.tup .nil 0 ⟨194, 62, 194, 64⟩) .nil)))) 0 ⟨194, 41, 194, 65⟩) .nil) ⟨194, 40, 194, 66⟩) ⟨194, 30, 194, 66⟩)) (.bin .add (.var 4 "steps" ⟨194, 68, 194, 73⟩) (.int 1 0 ⟨194, 76, 194, 77⟩) ⟨194, 68, 194, 77⟩) 0 0 ⟨194, 12, 194, 26⟩ ⟨194, 29, 194, 78⟩ ⟨194, 12, 194, 78⟩) .nil))) (.cons (.ifs (.cmp .eq (.var 7 "which" ⟨195, 13, 195, 18⟩) (.int 6 0 ⟨195, 22, 195, 23⟩) ⟨195, 13, 195, 23⟩) (.cons (.expr (.meth (.var 17 "disk" ⟨196, 12, 196, 16⟩) "remove" (.cons (.var 6 "name" ⟨196, 24, 196, 28⟩) .nil) ⟨196, 12, 196, 23⟩ ⟨196, 12, 196, 29⟩) ⟨196, 12, 196, 29⟩) (.cons (.par ⟨3, "waiting", ⟨197, 12, 197, 19⟩⟩ ⟨4, "steps", ⟨197, 21, 197, 26⟩⟩ (.new (.cat (.ofE (.var 3 "waiting" ⟨197, 30, 197, 37⟩)) (.disp (.cons (.tup (.cons (.str "remove" 0 ⟨197, 42, 197, 50⟩) (.cons (.var 6 "name" ⟨197, 52, 197, 56⟩) (.cons (.int 0 0 ⟨197, 58, 197, 59⟩) (.cons (.tup .nil 0 ⟨197, 61, 197, 63⟩) .nil)))) 0 ⟨197, 41, 197, 64⟩) .nil) ⟨197, 40, 197, 65⟩) ⟨197, 30, 197, 65⟩)) (.bin .add (.var 4 "steps" ⟨197, 67, 197, 72⟩) (.int 1 0 ⟨197, 75, 197, 76⟩) ⟨197, 67, 197, 76⟩) 0 0 ⟨197, 12, 197, 26⟩ ⟨197, 29, 197, 77⟩ ⟨197, 12, 197, 77⟩) .nil)) (.cons (.ifs (.cmp .lt (.var 7 "which" ⟨198, 13, 198, 18⟩) (.int 9 0 ⟨198, 21, 198, 22⟩) ⟨198, 13, 198, 22⟩) (.cons (.expr (.meth (.var 17 "disk" ⟨199, 12, 199, 16⟩) "sync" (.cons (.var 6 "name" ⟨199, 22, 199, 26⟩) .nil) ⟨199, 12, 199, 21⟩ ⟨199, 12, 199, 27⟩) ⟨199, 12, 199, 27⟩) (.cons (.asg (.tup [⟨2, "files", ⟨200, 12, 200, 17⟩⟩, ⟨4, "steps", ⟨200, 19, 200, 24⟩⟩] 0 ⟨200, 12, 200, 24⟩) (.tup (.cons (.call 5 "_law_seen" (.cons (.var 2 "files" ⟨200, 38, 200, 43⟩) (.cons (.new (.lc b7_6 (.name ⟨19, "deed", ⟨200, 55, 200, 59⟩⟩) (.a (.var 3 "waiting" ⟨200, 63, 200, 70⟩)) (.some (.cmp .eq (.sub (.var 19 "deed" ⟨200, 74, 200, 78⟩) (.int 1 0 ⟨200, 79, 200, 80⟩) ⟨200, 74, 200, 81⟩) (.var 6 "name" ⟨200, 85, 200, 89⟩) ⟨200, 74, 200, 89⟩)) sc5 [(".0", 18), ("deed", 19)] ⟨200, 45, 200, 90⟩)) .nil)) ⟨200, 28, 200, 37⟩ ⟨200, 28, 200, 91⟩) (.cons (.bin .add (.var 4 "steps" ⟨200, 93, 200, 98⟩) (.int 1 0 ⟨200, 101, 200, 102⟩) ⟨200, 93, 200, 102⟩) .nil)) 0 ⟨200, 27, 200, 103⟩) ⟨200, 12, 200, 103⟩) (.cons (.asgL ⟨3, "waiting", ⟨201, 12, 201, 19⟩⟩ (.lc b7_5 (.name ⟨19, "deed", ⟨201, 32, 201, 36⟩⟩) (.a (.var 3 "waiting" ⟨201, 40, 201, 47⟩)) (.some (.cmp .ne (.sub (.var 19 "deed" ⟨201, 51, 201, 55⟩) (.int 1 0 ⟨201, 56, 201, 57⟩) ⟨201, 51, 201, 58⟩) (.var 6 "name" ⟨201, 62, 201, 66⟩) ⟨201, 51, 201, 66⟩)) sc5 [(".0", 18), ("deed", 19)] ⟨201, 22, 201, 67⟩) ⟨201, 12, 201, 67⟩) .nil))) (.cons (.asg (.name ⟨13, "picks", ⟨203, 12, 203, 17⟩⟩) (.biL .tup (.lc b7_8 (.name ⟨11, "k", ⟨203, 50, 203, 51⟩⟩) (.r1 (.call 3 "_law_take" (.cons (.var 1 "tape" ⟨203, 71, 203, 75⟩) (.cons (.int 12 0 ⟨203, 77, 203, 79⟩) .nil)) ⟨203, 61, 203, 70⟩ ⟨203, 61, 203, 80⟩) ⟨203, 55, 203, 60⟩ ⟨203, 55, 203, 81⟩) .none sc4 [(".0", 18), ("k", 11)] ⟨203, 26, 203, 82⟩) ⟨203, 20, 203, 25⟩ ⟨203, 20, 203, 83⟩) ⟨203, 12, 203, 83⟩) (.cons (.ifs (.cmp .ne (.meth (.var 17 "disk" ⟨204, 15, 204, 19⟩) "waits" .nil ⟨204, 15, 204, 25⟩ ⟨204, 15, 204, 27⟩) (.biL .sum (.lc b7_7 (.tup [⟨20, "kind", ⟨204, 93, 204, 97⟩⟩, ⟨21, "own", ⟨204, 99, 204, 102⟩⟩, ⟨10, "place", ⟨204, 104, 204, 109⟩⟩, ⟨12, "row", ⟨204, 111, 204, 114⟩⟩] 0 ⟨204, 93, 204, 114⟩) (.a (.var 3 "waiting" ⟨204, 118, 204, 125⟩)) .none sc6 [(".0", 18), ("kind", 20), ("own", 21), ("place", 10), ("row", 12)] ⟨204, 35, 204, 126⟩) ⟨204, 31, 204, 34⟩ ⟨204, 31, 204, 127⟩) ⟨204, 15, 204, 127⟩) (.cons (.ret (.bl false 0 ⟨205, 23, 205, 28⟩) ⟨205, 16, 205, 28⟩) .nil) .nil ⟨204, 12, 205, 28⟩) (.cons (.asg (.tup [⟨2, "files", ⟨206, 12, 206, 17⟩⟩, ⟨3, "waiting", ⟨206, 19, 206, 26⟩⟩] 0 ⟨206, 12, 206, 26⟩) (.tup (.cons (.call 6 "_law_lost" (.cons (.var 2 "files" ⟨206, 40, 206, 45⟩) (.cons (.var 3 "waiting" ⟨206, 47, 206, 54⟩) (.cons (.var 13 "picks" ⟨206, 56, 206, 61⟩) .nil))) ⟨206, 30, 206, 39⟩ ⟨206, 30, 206, 62⟩) (.cons (.new (.disp .nil ⟨206, 64, 206, 66⟩)) .nil)) 0 ⟨206, 29, 206, 67⟩) ⟨206, 12, 206, 67⟩) (.cons (.expr (.meth (.var 17 "disk" ⟨207, 12, 207, 16⟩) "lose" (.cons (.var 13 "picks" ⟨207, 22, 207, 27⟩) .nil) ⟨207, 12, 207, 21⟩ ⟨207, 12, 207, 28⟩) ⟨207, 12, 207, 28⟩) .nil)))) ⟨198, 8, 207, 28⟩) .nil) ⟨195, 8, 207, 28⟩) .nil) ⟨191, 8, 207, 28⟩) .nil) ⟨186, 8, 207, 28⟩) (.cons (.asg (.name ⟨8, "seen", ⟨208, 8, 208, 12⟩⟩) (.call 5 "_law_seen" (.cons (.var 2 "files" ⟨208, 25, 208, 30⟩) (.cons (.var 3 "waiting" ⟨208, 32, 208, 39⟩) .nil)) ⟨208, 15, 208, 24⟩ ⟨208, 15, 208, 40⟩) ⟨208, 8, 208, 40⟩) (.cons (.ifs (.or (.cons (.neL (.ofE (.meth (.var 17 "disk" ⟨209, 11, 209, 15⟩) "names" .nil ⟨209, 11, 209, 21⟩ ⟨209, 11, 209, 23⟩)) (.sortS (.var 8 "seen" ⟨209, 34, 209, 38⟩) ⟨209, 27, 209, 33⟩ ⟨209, 27, 209, 39⟩) ⟨209, 11, 209, 39⟩) (.cons (.biL .any (.lc b7_3 (.name ⟨21, "own", ⟨209, 132, 209, 135⟩⟩) (.a (.tup (.cons (.str "a" 0 ⟨209, 140, 209, 143⟩) (.cons (.str "b" 0 ⟨209, 145, 209, 148⟩) (.cons (.str "c" 0 ⟨209, 150, 209, 153⟩) .nil))) 0 ⟨209, 139, 209, 154⟩)) .none sc3 [(".0", 18), ("own", 21)] ⟨209, 47, 209, 155⟩) ⟨209, 43, 209, 46⟩ ⟨209, 43, 209, 156⟩) (.cons (.cmp .ne (.meth (.var 17 "disk" ⟨209, 160, 209, 164⟩) "steps" .nil ⟨209, 160, 209, 170⟩ ⟨209, 160, 209, 172⟩) (.var 4 "steps" ⟨209, 176, 209, 181⟩) ⟨209, 160, 209, 181⟩) .nil))) ⟨209, 11, 209, 181⟩) (.cons (.ret (.bl false 0 ⟨210, 19, 210, 24⟩) ⟨210, 12, 210, 24⟩) .nil) .nil ⟨209, 8, 210, 24⟩) (.cons (.asg (.name ⟨14, "other", ⟨211, 8, 211, 13⟩⟩) (.meth (.var 17 "disk" ⟨211, 16, 211, 20⟩) "copy" .nil ⟨211, 16, 211, 25⟩ ⟨211, 16, 211, 27⟩) ⟨211, 8, 211, 27⟩) (.cons (.ifs (.or (.cons (.biL .any (.lc b7_2 (.name ⟨21, "own", ⟨212, 58, 212, 61⟩⟩) (.a (.tup (.cons (.str "a" 0 ⟨212, 66, 212, 69⟩) (.cons (.str "b" 0 ⟨212, 71, 212, 74⟩) (.cons (.str "c" 0 ⟨212, 76, 212, 79⟩) .nil))) 0 ⟨212, 65, 212, 80⟩)) .none sc2 [(".0", 18), ("own", 21)] ⟨212, 15, 212, 81⟩) ⟨212, 11, 212, 14⟩ ⟨212, 11, 212, 82⟩) (.cons (.cmp .ne (.meth (.var 14 "other" ⟨212, 86, 212, 91⟩) "waits" .nil ⟨212, 86, 212, 97⟩ ⟨212, 86, 212, 99⟩) (.int 0 0 ⟨212, 103, 212, 104⟩) ⟨212, 86, 212, 104⟩) .nil)) ⟨212, 11, 212, 104⟩) (.cons (.ret (.bl false 0 ⟨213, 19, 213, 24⟩) ⟨213, 12, 213, 24⟩) .nil) .nil ⟨212, 8, 213, 24⟩) .nil))))))))
def b7 : Stms := (.cons (.asg (.name ⟨1, "tape", ⟨180, 4, 180, 8⟩⟩) (.call 2 "_law_tape" (.cons (.var 0 "script" ⟨180, 21, 180, 27⟩) .nil) ⟨180, 11, 180, 20⟩ ⟨180, 11, 180, 28⟩) ⟨180, 4, 180, 28⟩) (.cons (.asg (.tup [⟨17, "disk", ⟨181, 4, 181, 8⟩⟩, ⟨2, "files", ⟨181, 10, 181, 15⟩⟩, ⟨3, "waiting", ⟨181, 17, 181, 24⟩⟩, ⟨4, "steps", ⟨181, 26, 181, 31⟩⟩] 0 ⟨181, 4, 181, 31⟩) (.tup (.cons (.make "Disk" .nil ⟨181, 35, 181, 39⟩ ⟨181, 35, 181, 41⟩) (.cons (.dct0 ⟨181, 43, 181, 45⟩) (.cons (.new (.disp .nil ⟨181, 47, 181, 49⟩)) (.cons (.int 0 0 ⟨181, 51, 181, 52⟩) .nil)))) 0 ⟨181, 34, 181, 53⟩) ⟨181, 4, 181, 53⟩) (.cons (.forr (.name ⟨5, "turn", ⟨182, 8, 182, 12⟩⟩) (.r1 (.call 3 "_law_take" (.cons (.var 1 "tape" ⟨182, 32, 182, 36⟩) (.cons (.int 30 0 ⟨182, 38, 182, 40⟩) .nil)) ⟨182, 22, 182, 31⟩ ⟨182, 22, 182, 41⟩) ⟨182, 16, 182, 21⟩ ⟨182, 16, 182, 42⟩) b7_9 ⟨182, 4, 213, 24⟩) (.cons (.par ⟨15, "fuse", ⟨214, 4, 214, 8⟩⟩ ⟨16, "count", ⟨214, 10, 214, 15⟩⟩ (.call 3 "_law_take" (.cons (.var 1 "tape" ⟨214, 29, 214, 33⟩) (.cons (.int 4 0 ⟨214, 35, 214, 36⟩) .nil)) ⟨214, 19, 214, 28⟩ ⟨214, 19, 214, 37⟩) (.int 0 0 ⟨214, 39, 214, 40⟩) 0 0 ⟨214, 4, 214, 15⟩ ⟨214, 18, 214, 41⟩ ⟨214, 4, 214, 41⟩) (.cons (.expr (.meth (.var 17 "disk" ⟨215, 4, 215, 8⟩) "set_fuse" (.cons (.var 15 "fuse" ⟨215, 18, 215, 22⟩) .nil) ⟨215, 4, 215, 17⟩ ⟨215, 4, 215, 23⟩) ⟨215, 4, 215, 23⟩) (.cons (.tri b7_1 0 "PowerLost" .ne 16 "count" ⟨221, 11, 221, 16⟩ 15 "fuse" ⟨221, 20, 221, 24⟩ ⟨221, 11, 221, 24⟩ false 0 ⟨222, 19, 222, 24⟩ ⟨222, 12, 222, 24⟩ ⟨221, 8, 222, 24⟩ ⟨220, 11, 220, 20⟩ ⟨220, 4, 222, 24⟩ ⟨216, 4, 222, 24⟩) (.cons (.ifs (.or (.cons (.cmp .ne (.var 16 "count" ⟨223, 7, 223, 12⟩) (.var 15 "fuse" ⟨223, 16, 223, 20⟩) ⟨223, 7, 223, 20⟩) (.cons (.cmp .ne (.meth (.var 17 "disk" ⟨223, 24, 223, 28⟩) "steps" .nil ⟨223, 24, 223, 34⟩ ⟨223, 24, 223, 36⟩) (.bin .add (.var 4 "steps" ⟨223, 40, 223, 45⟩) (.var 15 "fuse" ⟨223, 48, 223, 52⟩) ⟨223, 40, 223, 52⟩) ⟨223, 24, 223, 52⟩) (.cons (.not (.refd 0 "_law_refused" (.meth (.var 17 "disk" ⟨223, 82, 223, 86⟩) "sync" (.cons (.str "z" 0 ⟨223, 92, 223, 95⟩) .nil) ⟨223, 82, 223, 91⟩ ⟨223, 82, 223, 96⟩) sc1 ⟨223, 61, 223, 73⟩ ⟨223, 74, 223, 96⟩ ⟨223, 61, 223, 97⟩) ⟨223, 57, 223, 97⟩) .nil))) ⟨223, 7, 223, 98⟩) (.cons (.ret (.bl false 0 ⟨224, 15, 224, 20⟩) ⟨224, 8, 224, 20⟩) .nil) .nil ⟨223, 4, 224, 20⟩) (.cons (.expr (.meth (.var 17 "disk" ⟨225, 4, 225, 8⟩) "lose" (.cons (.tup .nil 0 ⟨225, 14, 225, 16⟩) .nil) ⟨225, 4, 225, 13⟩ ⟨225, 4, 225, 17⟩) ⟨225, 4, 225, 17⟩) (.cons (.expr (.meth (.var 17 "disk" ⟨226, 4, 226, 8⟩) "sync" (.cons (.str "z" 0 ⟨226, 14, 226, 17⟩) .nil) ⟨226, 4, 226, 13⟩ ⟨226, 4, 226, 18⟩) ⟨226, 4, 226, 18⟩) (.cons (.ifs (.not (.refd 0 "_law_refused" (.meth (.var 17 "disk" ⟨227, 32, 227, 36⟩) "write" (.cons (.str "a" 0 ⟨227, 43, 227, 46⟩) (.cons (.bin .add (.meth (.var 17 "disk" ⟨227, 48, 227, 52⟩) "size" (.cons (.str "a" 0 ⟨227, 58, 227, 61⟩) .nil) ⟨227, 48, 227, 57⟩ ⟨227, 48, 227, 62⟩) (.int 1 0 ⟨227, 65, 227, 66⟩) ⟨227, 48, 227, 66⟩) (.cons (.tup (.cons (.int 1 0 ⟨227, 69, 227, 70⟩) .nil) 0 ⟨227, 68, 227, 72⟩) .nil))) ⟨227, 32, 227, 42⟩ ⟨227, 32, 227, 73⟩) sc1 ⟨227, 11, 227, 23⟩ ⟨227, 24, 227, 73⟩ ⟨227, 11, 227, 74⟩) ⟨227, 7, 227, 74⟩) (.cons (.ret (.bl false 0 ⟨228, 15, 228, 20⟩) ⟨228, 8, 228, 20⟩) .nil) .nil ⟨227, 4, 228, 20⟩) (.cons (.ifs (.not (.refd 0 "_law_refused" (.meth (.var 17 "disk" ⟨229, 32, 229, 36⟩) "cut" (.cons (.str "a" 0 ⟨229, 41, 229, 44⟩) (.cons (.bin .add (.meth (.var 17 "disk" ⟨229, 46, 229, 50⟩) "size" (.cons (.str "a" 0 ⟨229, 56, 229, 59⟩) .nil) ⟨229, 46, 229, 55⟩ ⟨229, 46, 229, 60⟩) (.int 1 0 ⟨229, 63, 229, 64⟩) ⟨229, 46, 229, 64⟩) .nil)) ⟨229, 32, 229, 40⟩ ⟨229, 32, 229, 65⟩) sc1 ⟨229, 11, 229, 23⟩ ⟨229, 24, 229, 65⟩ ⟨229, 11, 229, 66⟩) ⟨229, 7, 229, 66⟩) (.cons (.ret (.bl false 0 ⟨230, 15, 230, 20⟩) ⟨230, 8, 230, 20⟩) .nil) .nil ⟨229, 4, 230, 20⟩) (.cons (.ret (.and (.cons (.refd 0 "_law_refused" (.meth (.var 17 "disk" ⟨231, 32, 231, 36⟩) "write" (.cons (.str "a" 0 ⟨231, 43, 231, 46⟩) (.cons (.int 0 0 ⟨231, 48, 231, 49⟩) (.cons (.tup (.cons (.int 256 0 ⟨231, 52, 231, 55⟩) .nil) 0 ⟨231, 51, 231, 57⟩) .nil))) ⟨231, 32, 231, 42⟩ ⟨231, 32, 231, 58⟩) sc1 ⟨231, 11, 231, 23⟩ ⟨231, 24, 231, 58⟩ ⟨231, 11, 231, 59⟩) (.cons (.cmp .eq (.meth (.var 17 "disk" ⟨231, 64, 231, 68⟩) "read" (.cons (.str "z" 0 ⟨231, 74, 231, 77⟩) .nil) ⟨231, 64, 231, 73⟩ ⟨231, 64, 231, 78⟩) (.tup .nil 0 ⟨231, 82, 231, 84⟩) ⟨231, 64, 231, 84⟩) .nil)) ⟨231, 11, 231, 84⟩) ⟨231, 4, 231, 84⟩) .nil))))))))))))
def N7 : List Str := [("script" : Str), ("tape" : Str), ("files" : Str), ("waiting" : Str), ("steps" : Str), ("turn" : Str), ("name" : Str), ("which" : Str), ("seen" : Str), ("size" : Str), ("place" : Str), ("k" : Str), ("row" : Str), ("picks" : Str), ("other" : Str), ("fuse" : Str), ("count" : Str), ("disk" : Str), (".0" : Str), ("deed" : Str), ("kind" : Str), ("own" : Str)]
def f7 : Fn := ⟨1, 22, false, b7⟩
def b8 : Stms := (.cons (.setA (.var 0 "self" ⟨17, 8, 17, 12⟩) "_kept" (.dct0 ⟨17, 21, 17, 23⟩) ⟨17, 8, 17, 18⟩ ⟨17, 8, 17, 23⟩) (.cons (.setA (.var 0 "self" ⟨18, 8, 18, 12⟩) "_now" (.dct0 ⟨18, 20, 18, 22⟩) ⟨18, 8, 18, 17⟩ ⟨18, 8, 18, 22⟩) (.cons (.setA (.var 0 "self" ⟨19, 8, 19, 12⟩) "_waiting" (.new (.disp .nil ⟨19, 24, 19, 26⟩)) ⟨19, 8, 19, 21⟩ ⟨19, 8, 19, 26⟩) (.cons (.setA (.var 0 "self" ⟨20, 8, 20, 12⟩) "_fuse" (.non 0 ⟨20, 21, 20, 25⟩) ⟨20, 8, 20, 18⟩ ⟨20, 8, 20, 25⟩) (.cons (.setA (.var 0 "self" ⟨21, 8, 21, 12⟩) "_steps" (.int 0 0 ⟨21, 22, 21, 23⟩) ⟨21, 8, 21, 19⟩ ⟨21, 8, 21, 23⟩) .nil)))))
def N8 : List Str := [("self" : Str)]
def f8 : Fn := ⟨1, 1, false, b8⟩
def b9 : Stms := (.cons (.ret (.attr (.var 0 "self" ⟨24, 15, 24, 19⟩) "_steps" ⟨24, 15, 24, 26⟩) ⟨24, 8, 24, 26⟩) .nil)
def N9 : List Str := [("self" : Str)]
def f9 : Fn := ⟨1, 1, false, b9⟩
def b10 : Stms := (.cons (.setA (.var 0 "self" ⟨27, 8, 27, 12⟩) "_fuse" (.var 1 "many" ⟨27, 21, 27, 25⟩) ⟨27, 8, 27, 18⟩ ⟨27, 8, 27, 25⟩) .nil)
def N10 : List Str := [("self" : Str), ("many" : Str)]
def f10 : Fn := ⟨2, 2, false, b10⟩
def b11 : Stms := (.cons (.ifs (.ntN (.attr (.var 0 "self" ⟨30, 11, 30, 15⟩) "_fuse" ⟨30, 11, 30, 21⟩) 0 ⟨30, 29, 30, 33⟩ ⟨30, 11, 30, 33⟩) (.cons (.ifs (.cmp .le (.attr (.var 0 "self" ⟨31, 15, 31, 19⟩) "_fuse" ⟨31, 15, 31, 25⟩) (.int 0 0 ⟨31, 29, 31, 30⟩) ⟨31, 15, 31, 30⟩) (.cons (.rais 1 "PowerLost" "the power is gone" 0 ⟨32, 22, 32, 31⟩ ⟨32, 32, 32, 51⟩ ⟨32, 22, 32, 52⟩ ⟨32, 16, 32, 52⟩) .nil) .nil ⟨31, 12, 32, 52⟩) (.cons (.augA .sub (.var 0 "self" ⟨33, 12, 33, 16⟩) "_fuse" (.int 1 0 ⟨33, 26, 33, 27⟩) ⟨33, 12, 33, 22⟩ ⟨33, 12, 33, 27⟩) .nil)) .nil ⟨30, 8, 33, 27⟩) (.cons (.augA .add (.var 0 "self" ⟨34, 8, 34, 12⟩) "_steps" (.int 1 0 ⟨34, 23, 34, 24⟩) ⟨34, 8, 34, 19⟩ ⟨34, 8, 34, 24⟩) .nil))
def N11 : List Str := [("self" : Str)]
def f11 : Fn := ⟨1, 1, false, b11⟩
def b12 : Stms := (.cons (.ret (.new (.sortS (.attr (.var 0 "self" ⟨37, 22, 37, 26⟩) "_now" ⟨37, 22, 37, 31⟩) ⟨37, 15, 37, 21⟩ ⟨37, 15, 37, 32⟩)) ⟨37, 8, 37, 32⟩) .nil)
def N12 : List Str := [("self" : Str)]
def f12 : Fn := ⟨1, 1, false, b12⟩
def b13 : Stms := (.cons (.ret (.bi1 .len (.dget (.attr (.var 0 "self" ⟨40, 19, 40, 23⟩) "_now" ⟨40, 19, 40, 28⟩) (.var 1 "name" ⟨40, 33, 40, 37⟩) (.tup .nil 0 ⟨40, 39, 40, 41⟩) ⟨40, 19, 40, 32⟩ ⟨40, 19, 40, 42⟩) ⟨40, 15, 40, 18⟩ ⟨40, 15, 40, 43⟩) ⟨40, 8, 40, 43⟩) .nil)
def N13 : List Str := [("self" : Str), ("name" : Str)]
def f13 : Fn := ⟨2, 2, false, b13⟩
def b14 : Stms := (.cons (.ret (.dget (.attr (.var 0 "self" ⟨43, 15, 43, 19⟩) "_now" ⟨43, 15, 43, 24⟩) (.var 1 "name" ⟨43, 29, 43, 33⟩) (.tup .nil 0 ⟨43, 35, 43, 37⟩) ⟨43, 15, 43, 28⟩ ⟨43, 15, 43, 38⟩) ⟨43, 8, 43, 38⟩) .nil)
def N14 : List Str := [("self" : Str), ("name" : Str)]
def f14 : Fn := ⟨2, 2, false, b14⟩
def b15 : Stms := (.cons (.setA (.var 0 "self" ⟨46, 8, 46, 12⟩) "_now" (.call 1 "done" (.cons (.attr (.var 0 "self" ⟨46, 25, 46, 29⟩) "_now" ⟨46, 25, 46, 34⟩) (.cons (.var 1 "kind" ⟨46, 36, 46, 40⟩) (.cons (.var 2 "name" ⟨46, 42, 46, 46⟩) (.cons (.var 3 "place" ⟨46, 48, 46, 53⟩) (.cons (.var 4 "row" ⟨46, 55, 46, 58⟩) .nil))))) ⟨46, 20, 46, 24⟩ ⟨46, 20, 46, 59⟩) ⟨46, 8, 46, 17⟩ ⟨46, 8, 46, 59⟩) (.cons (.app (.attr (.var 0 "self" ⟨47, 8, 47, 12⟩) "_waiting" ⟨47, 8, 47, 21⟩) (.tup (.cons (.var 1 "kind" ⟨47, 30, 47, 34⟩) (.cons (.var 2 "name" ⟨47, 36, 47, 40⟩) (.cons (.var 3 "place" ⟨47, 42, 47, 47⟩) (.cons (.var 4 "row" ⟨47, 49, 47, 52⟩) .nil)))) 0 ⟨47, 29, 47, 53⟩) ⟨47, 8, 47, 28⟩ ⟨47, 8, 47, 54⟩ ⟨47, 8, 47, 54⟩) .nil))
def N15 : List Str := [("self" : Str), ("kind" : Str), ("name" : Str), ("place" : Str), ("row" : Str)]
def f15 : Fn := ⟨5, 5, false, b15⟩
def b16_0 : Ex := (.chain .le .le (.int 0 0 ⟨50, 57, 50, 58⟩) (.var 5 "a" ⟨50, 62, 50, 63⟩) (.int 255 0 ⟨50, 67, 50, 70⟩) ⟨50, 57, 50, 70⟩)
def b16 : Stms := (.cons (.ifs (.or (.cons (.not (.chain .le .le (.int 0 0 ⟨50, 15, 50, 16⟩) (.var 2 "place" ⟨50, 20, 50, 25⟩) (.meth (.var 0 "self" ⟨50, 29, 50, 33⟩) "size" (.cons (.var 1 "name" ⟨50, 39, 50, 43⟩) .nil) ⟨50, 29, 50, 38⟩ ⟨50, 29, 50, 44⟩) ⟨50, 15, 50, 44⟩) ⟨50, 11, 50, 44⟩) (.cons (.not (.biL .all (.lc b16_0 (.name ⟨5, "a", ⟨50, 75, 50, 76⟩⟩) (.a (.var 3 "row" ⟨50, 80, 50, 83⟩)) .none sc7 [(".0", 4), ("a", 5)] ⟨50, 56, 50, 84⟩) ⟨50, 52, 50, 55⟩ ⟨50, 52, 50, 85⟩) ⟨50, 48, 50, 85⟩) .nil)) ⟨50, 11, 50, 85⟩) (.cons (.rais 0 "InvalidDisk" "a write is refused" 0 ⟨51, 18, 51, 29⟩ ⟨51, 30, 51, 50⟩ ⟨51, 18, 51, 51⟩ ⟨51, 12, 51, 51⟩) .nil) .nil ⟨50, 8, 51, 51⟩) (.cons (.expr (.meth (.var 0 "self" ⟨52, 8, 52, 12⟩) "_step" .nil ⟨52, 8, 52, 18⟩ ⟨52, 8, 52, 20⟩) ⟨52, 8, 52, 20⟩) (.cons (.expr (.meth (.var 0 "self" ⟨53, 8, 53, 12⟩) "_wait" (.cons (.str "write" 0 ⟨53, 19, 53, 26⟩) (.cons (.var 1 "name" ⟨53, 28, 53, 32⟩) (.cons (.var 2 "place" ⟨53, 34, 53, 39⟩) (.cons (.tupE (.var 3 "row" ⟨53, 47, 53, 50⟩) ⟨53, 41, 53, 46⟩ ⟨53, 41, 53, 51⟩) .nil)))) ⟨53, 8, 53, 18⟩ ⟨53, 8, 53, 52⟩) ⟨53, 8, 53, 52⟩) .nil)))
def N16 : List Str := [("self" : Str), ("name" : Str), ("place" : Str), ("row" : Str), (".0" : Str), ("a" : Str)]
def f16 : Fn := ⟨4, 6, false, b16⟩
def b17 : Stms := (.cons (.ifs (.not (.chain .le .le (.int 0 0 ⟨56, 15, 56, 16⟩) (.var 2 "size" ⟨56, 20, 56, 24⟩) (.meth (.var 0 "self" ⟨56, 28, 56, 32⟩) "size" (.cons (.var 1 "name" ⟨56, 38, 56, 42⟩) .nil) ⟨56, 28, 56, 37⟩ ⟨56, 28, 56, 43⟩) ⟨56, 15, 56, 43⟩) ⟨56, 11, 56, 43⟩) (.cons (.rais 0 "InvalidDisk" "a size is refused" 0 ⟨57, 18, 57, 29⟩ ⟨57, 30, 57, 49⟩ ⟨57, 18, 57, 50⟩ ⟨57, 12, 57, 50⟩) .nil) .nil ⟨56, 8, 57, 50⟩) (.cons (.expr (.meth (.var 0 "self" ⟨58, 8, 58, 12⟩) "_step" .nil ⟨58, 8, 58, 18⟩ ⟨58, 8, 58, 20⟩) ⟨58, 8, 58, 20⟩) (.cons (.expr (.meth (.var 0 "self" ⟨59, 8, 59, 12⟩) "_wait" (.cons (.str "cut" 0 ⟨59, 19, 59, 24⟩) (.cons (.var 1 "name" ⟨59, 26, 59, 30⟩) (.cons (.var 2 "size" ⟨59, 32, 59, 36⟩) (.cons (.tup .nil 0 ⟨59, 38, 59, 40⟩) .nil)))) ⟨59, 8, 59, 18⟩ ⟨59, 8, 59, 41⟩) ⟨59, 8, 59, 41⟩) .nil)))
def N17 : List Str := [("self" : Str), ("name" : Str), ("size" : Str)]
def f17 : Fn := ⟨3, 3, false, b17⟩
def b18 : Stms := (.cons (.expr (.meth (.var 0 "self" ⟨62, 8, 62, 12⟩) "_step" .nil ⟨62, 8, 62, 18⟩ ⟨62, 8, 62, 20⟩) ⟨62, 8, 62, 20⟩) (.cons (.expr (.meth (.var 0 "self" ⟨63, 8, 63, 12⟩) "_wait" (.cons (.str "remove" 0 ⟨63, 19, 63, 27⟩) (.cons (.var 1 "name" ⟨63, 29, 63, 33⟩) (.cons (.int 0 0 ⟨63, 35, 63, 36⟩) (.cons (.tup .nil 0 ⟨63, 38, 63, 40⟩) .nil)))) ⟨63, 8, 63, 18⟩ ⟨63, 8, 63, 41⟩) ⟨63, 8, 63, 41⟩) .nil))
def N18 : List Str := [("self" : Str), ("name" : Str)]
def f18 : Fn := ⟨2, 2, false, b18⟩
def b19_0 : Stms := (.cons (.ifs (.cmp .eq (.sub (.var 3 "deed" ⟨69, 15, 69, 19⟩) (.int 1 0 ⟨69, 20, 69, 21⟩) ⟨69, 15, 69, 22⟩) (.var 1 "name" ⟨69, 26, 69, 30⟩) ⟨69, 15, 69, 30⟩) (.cons (.setA (.var 0 "self" ⟨70, 16, 70, 20⟩) "_kept" (.call 1 "done" (.cons (.attr (.var 0 "self" ⟨70, 34, 70, 38⟩) "_kept" ⟨70, 34, 70, 44⟩) (.cons (.sub (.var 3 "deed" ⟨70, 46, 70, 50⟩) (.int 0 0 ⟨70, 51, 70, 52⟩) ⟨70, 46, 70, 53⟩) (.cons (.sub (.var 3 "deed" ⟨70, 55, 70, 59⟩) (.int 1 0 ⟨70, 60, 70, 61⟩) ⟨70, 55, 70, 62⟩) (.cons (.sub (.var 3 "deed" ⟨70, 64, 70, 68⟩) (.int 2 0 ⟨70, 69, 70, 70⟩) ⟨70, 64, 70, 71⟩) (.cons (.sub (.var 3 "deed" ⟨70, 73, 70, 77⟩) (.int 3 0 ⟨70, 78, 70, 79⟩) ⟨70, 73, 70, 80⟩) .nil))))) ⟨70, 29, 70, 33⟩ ⟨70, 29, 70, 81⟩) ⟨70, 16, 70, 26⟩ ⟨70, 16, 70, 81⟩) .nil) (.cons (.app (.var 2 "left" ⟨72, 16, 72, 20⟩) (.var 3 "deed" ⟨72, 28, 72, 32⟩) ⟨72, 16, 72, 27⟩ ⟨72, 16, 72, 33⟩ ⟨72, 16, 72, 33⟩) .nil) ⟨69, 12, 72, 33⟩) .nil)
def b19 : Stms := (.cons (.expr (.meth (.var 0 "self" ⟨66, 8, 66, 12⟩) "_step" .nil ⟨66, 8, 66, 18⟩ ⟨66, 8, 66, 20⟩) ⟨66, 8, 66, 20⟩) (.cons (.asgL ⟨2, "left", ⟨67, 8, 67, 12⟩⟩ (.disp .nil ⟨67, 15, 67, 17⟩) ⟨67, 8, 67, 17⟩) (.cons (.forr (.name ⟨3, "deed", ⟨68, 12, 68, 16⟩⟩) (.a (.attr (.var 0 "self" ⟨68, 20, 68, 24⟩) "_waiting" ⟨68, 20, 68, 33⟩)) b19_0 ⟨68, 8, 72, 33⟩) (.cons (.setA (.var 0 "self" ⟨73, 8, 73, 12⟩) "_waiting" (.var 2 "left" ⟨73, 24, 73, 28⟩) ⟨73, 8, 73, 21⟩ ⟨73, 8, 73, 28⟩) .nil))))
def N19 : List Str := [("self" : Str), ("name" : Str), ("left" : Str), ("deed" : Str)]
def f19 : Fn := ⟨2, 4, false, b19⟩
def b20_0 : Stms := (.cons (.asg (.name ⟨10, "pick", ⟨80, 16, 80, 20⟩⟩) (.ifx (.cmp .lt (.var 2 "at" ⟨80, 36, 80, 38⟩) (.bi1 .len (.var 1 "picks" ⟨80, 45, 80, 50⟩) ⟨80, 41, 80, 44⟩ ⟨80, 41, 80, 51⟩) ⟨80, 36, 80, 51⟩) (.sub (.var 1 "picks" ⟨80, 23, 80, 28⟩) (.var 2 "at" ⟨80, 29, 80, 31⟩) ⟨80, 23, 80, 32⟩) (.int 0 0 ⟨80, 57, 80, 58⟩) ⟨80, 23, 80, 58⟩) ⟨80, 16, 80, 58⟩) (.cons (.aug .add ⟨2, "at", ⟨81, 16, 81, 18⟩⟩ (.int 1 0 ⟨81, 22, 81, 23⟩) ⟨81, 16, 81, 23⟩) (.cons (.ifs (.and (.cons (.cmp .eq (.bin .mod (.var 10 "pick" ⟨82, 19, 82, 23⟩) (.int 2 0 ⟨82, 26, 82, 27⟩) ⟨82, 19, 82, 27⟩) (.int 1 0 ⟨82, 31, 82, 32⟩) ⟨82, 19, 82, 32⟩) (.cons (.or (.cons (.cmp .ne (.var 3 "kind" ⟨82, 38, 82, 42⟩) (.str "write" 0 ⟨82, 46, 82, 53⟩) ⟨82, 38, 82, 53⟩) (.cons (.cmp .le (.var 8 "begin" ⟨82, 57, 82, 62⟩) (.bi1 .len (.dget (.attr (.var 0 "self" ⟨82, 70, 82, 74⟩) "_kept" ⟨82, 70, 82, 80⟩) (.var 4 "name" ⟨82, 85, 82, 89⟩) (.tup .nil 0 ⟨82, 91, 82, 93⟩) ⟨82, 70, 82, 84⟩ ⟨82, 70, 82, 94⟩) ⟨82, 66, 82, 69⟩ ⟨82, 66, 82, 95⟩) ⟨82, 57, 82, 95⟩) .nil)) ⟨82, 38, 82, 95⟩) .nil)) ⟨82, 19, 82, 96⟩) (.cons (.ifs (.or (.cons (.cmp .ne (.var 3 "kind" ⟨83, 23, 83, 27⟩) (.str "cut" 0 ⟨83, 31, 83, 36⟩) ⟨83, 23, 83, 36⟩) (.cons (.cmp .le (.var 8 "begin" ⟨83, 40, 83, 45⟩) (.bi1 .len (.dget (.attr (.var 0 "self" ⟨83, 53, 83, 57⟩) "_kept" ⟨83, 53, 83, 63⟩) (.var 4 "name" ⟨83, 68, 83, 72⟩) (.tup .nil 0 ⟨83, 74, 83, 76⟩) ⟨83, 53, 83, 67⟩ ⟨83, 53, 83, 77⟩) ⟨83, 49, 83, 52⟩ ⟨83, 49, 83, 78⟩) ⟨83, 40, 83, 78⟩) .nil)) ⟨83, 23, 83, 78⟩) (.cons (.setA (.var 0 "self" ⟨84, 24, 84, 28⟩) "_kept" (.call 1 "done" (.cons (.attr (.var 0 "self" ⟨84, 42, 84, 46⟩) "_kept" ⟨84, 42, 84, 52⟩) (.cons (.var 3 "kind" ⟨84, 54, 84, 58⟩) (.cons (.var 4 "name" ⟨84, 60, 84, 64⟩) (.cons (.var 8 "begin" ⟨84, 66, 84, 71⟩) (.cons (.var 9 "part" ⟨84, 73, 84, 77⟩) .nil))))) ⟨84, 37, 84, 41⟩ ⟨84, 37, 84, 78⟩) ⟨84, 24, 84, 34⟩ ⟨84, 24, 84, 78⟩) .nil) .nil ⟨83, 20, 84, 78⟩) .nil) .nil ⟨82, 16, 84, 78⟩) .nil)))
def b20_1 : Stms := (.cons (.asg (.name ⟨7, "pieces", ⟨78, 12, 78, 18⟩⟩) (.ifx (.cmp .eq (.var 3 "kind" ⟨78, 46, 78, 50⟩) (.str "write" 0 ⟨78, 54, 78, 61⟩) ⟨78, 46, 78, 61⟩) (.call 0 "pieces_of" (.cons (.var 5 "place" ⟨78, 31, 78, 36⟩) (.cons (.var 6 "row" ⟨78, 38, 78, 41⟩) .nil)) ⟨78, 21, 78, 30⟩ ⟨78, 21, 78, 42⟩) (.new (.disp (.cons (.tup (.cons (.var 5 "place" ⟨78, 69, 78, 74⟩) (.cons (.var 6 "row" ⟨78, 76, 78, 79⟩) .nil)) 0 ⟨78, 68, 78, 80⟩) .nil) ⟨78, 67, 78, 81⟩)) ⟨78, 21, 78, 81⟩) ⟨78, 12, 78, 81⟩) (.cons (.forr (.tup [⟨8, "begin", ⟨79, 16, 79, 21⟩⟩, ⟨9, "part", ⟨79, 23, 79, 27⟩⟩] 0 ⟨79, 16, 79, 27⟩) (.a (.var 7 "pieces" ⟨79, 31, 79, 37⟩)) b20_0 ⟨79, 12, 84, 78⟩) .nil))
def b20 : Stms := (.cons (.asg (.name ⟨2, "at", ⟨76, 8, 76, 10⟩⟩) (.int 0 0 ⟨76, 13, 76, 14⟩) ⟨76, 8, 76, 14⟩) (.cons (.forr (.tup [⟨3, "kind", ⟨77, 12, 77, 16⟩⟩, ⟨4, "name", ⟨77, 18, 77, 22⟩⟩, ⟨5, "place", ⟨77, 24, 77, 29⟩⟩, ⟨6, "row", ⟨77, 31, 77, 34⟩⟩] 0 ⟨77, 12, 77, 34⟩) (.a (.attr (.var 0 "self" ⟨77, 38, 77, 42⟩) "_waiting" ⟨77, 38, 77, 51⟩)) b20_1 ⟨77, 8, 84, 78⟩) (.cons (.parA (.var 0 "self" ⟨85, 8, 85, 12⟩) "_waiting" (.var 0 "self" ⟨85, 23, 85, 27⟩) "_now" (.new (.disp .nil ⟨85, 36, 85, 38⟩)) (.dcp (.attr (.var 0 "self" ⟨85, 45, 85, 49⟩) "_kept" ⟨85, 45, 85, 55⟩) ⟨85, 40, 85, 44⟩ ⟨85, 40, 85, 56⟩) 0 0 ⟨85, 8, 85, 21⟩ ⟨85, 23, 85, 32⟩ ⟨85, 8, 85, 32⟩ ⟨85, 35, 85, 57⟩ ⟨85, 8, 85, 57⟩) (.cons (.setA (.var 0 "self" ⟨86, 8, 86, 12⟩) "_fuse" (.non 0 ⟨86, 21, 86, 25⟩) ⟨86, 8, 86, 18⟩ ⟨86, 8, 86, 25⟩) .nil))))
def N20 : List Str := [("self" : Str), ("picks" : Str), ("at" : Str), ("kind" : Str), ("name" : Str), ("place" : Str), ("row" : Str), ("pieces" : Str), ("begin" : Str), ("part" : Str), ("pick" : Str)]
def f20 : Fn := ⟨2, 11, false, b20⟩
def b21_0 : Ex := (.ifx (.cmp .eq (.var 2 "kind" ⟨89, 50, 89, 54⟩) (.str "write" 0 ⟨89, 58, 89, 65⟩) ⟨89, 50, 89, 65⟩) (.bi1 .len (.call 0 "pieces_of" (.cons (.var 4 "place" ⟨89, 34, 89, 39⟩) (.cons (.var 5 "row" ⟨89, 41, 89, 44⟩) .nil)) ⟨89, 24, 89, 33⟩ ⟨89, 24, 89, 45⟩) ⟨89, 20, 89, 23⟩ ⟨89, 20, 89, 46⟩) (.int 1 0 ⟨89, 71, 89, 72⟩) ⟨89, 20, 89, 72⟩)
def b21 : Stms := (.cons (.ret (.biL .sum (.lc b21_0 (.tup [⟨2, "kind", ⟨89, 77, 89, 81⟩⟩, ⟨3, "_", ⟨89, 83, 89, 84⟩⟩, ⟨4, "place", ⟨89, 86, 89, 91⟩⟩, ⟨5, "row", ⟨89, 93, 89, 96⟩⟩] 0 ⟨89, 77, 89, 96⟩) (.a (.attr (.var 0 "self" ⟨89, 100, 89, 104⟩) "_waiting" ⟨89, 100, 89, 113⟩)) .none sc8 [(".0", 1), ("kind", 2), ("_", 3), ("place", 4), ("row", 5)] ⟨89, 19, 89, 114⟩) ⟨89, 15, 89, 18⟩ ⟨89, 15, 89, 115⟩) ⟨89, 8, 89, 115⟩) .nil)
def N21 : List Str := [("self" : Str), (".0" : Str), ("kind" : Str), ("_" : Str), ("place" : Str), ("row" : Str)]
def f21 : Fn := ⟨1, 6, true, b21⟩
def b22 : Stms := (.cons (.asg (.name ⟨1, "other", ⟨95, 8, 95, 13⟩⟩) (.make "Disk" .nil ⟨95, 16, 95, 20⟩ ⟨95, 16, 95, 22⟩) ⟨95, 8, 95, 22⟩) (.cons (.parA (.var 1 "other" ⟨96, 8, 96, 13⟩) "_kept" (.var 1 "other" ⟨96, 21, 96, 26⟩) "_now" (.dcp (.attr (.var 0 "self" ⟨96, 40, 96, 44⟩) "_kept" ⟨96, 40, 96, 50⟩) ⟨96, 35, 96, 39⟩ ⟨96, 35, 96, 51⟩) (.dcp (.attr (.var 0 "self" ⟨96, 58, 96, 62⟩) "_kept" ⟨96, 58, 96, 68⟩) ⟨96, 53, 96, 57⟩ ⟨96, 53, 96, 69⟩) 0 0 ⟨96, 8, 96, 19⟩ ⟨96, 21, 96, 31⟩ ⟨96, 8, 96, 31⟩ ⟨96, 34, 96, 70⟩ ⟨96, 8, 96, 70⟩) (.cons (.ret (.var 1 "other" ⟨97, 15, 97, 20⟩) ⟨97, 8, 97, 20⟩) .nil)))
def N22 : List Str := [("self" : Str), ("other" : Str)]
def f22 : Fn := ⟨1, 2, false, b22⟩
def fns : List Fn := [f0, f1, f2, f3, f4, f5, f6, f7, f8, f9, f10, f11, f12, f13, f14, f15, f16, f17, f18, f19, f20, f21, f22]
def fnames : List (Str × Nat) := [("pieces_of", 2), ("done", 5), ("_law_tape", 1), ("_law_take", 2), ("_law_done", 2), ("_law_seen", 2), ("_law_lost", 3), ("law", 1)]
def glv : List E := [.int 16, .int 40]
def gln : List Str := [("SECTOR" : Str), ("MOST_FILES" : Str)]
def rns : List Str := [("_law_refused" : Str)]
def xns : List Str := [("InvalidDisk" : Str), ("PowerLost" : Str)]
def rfs : List (Nat × Nat) := [(0, 0), (0, 1)]
def avs : List (Str × Str) := [("Disk", "_kept"), ("Disk", "_now"), ("Disk", "_waiting"), ("Disk", "_fuse"), ("Disk", "_steps")]
def mvs : List ((Str × Str) × (Nat × Nat)) := [(("Disk", "steps"), (9, 1)), (("Disk", "set_fuse"), (10, 2)), (("Disk", "_step"), (11, 1)), (("Disk", "names"), (12, 1)), (("Disk", "size"), (13, 2)), (("Disk", "read"), (14, 2)), (("Disk", "_wait"), (15, 5)), (("Disk", "write"), (16, 4)), (("Disk", "cut"), (17, 3)), (("Disk", "remove"), (18, 2)), (("Disk", "sync"), (19, 2)), (("Disk", "lose"), (20, 2)), (("Disk", "waits"), (21, 1)), (("Disk", "copy"), (22, 1))]
def cis : List (Str × (Nat × Nat)) := [("Disk", (8, 1))]
def tfs2 : List (Nat × Nat) := [(0, 1)]
def tns : List Str := [("PowerLost" : Str)]
def B : Tb := ⟨fun i => fns[i]?, fun i => glv[i]?, fun g c => rfs.contains (g, c), 100000, fun c f => avs.contains (c, f), fun c m => mvs.lookup (c, m), fun c => cis.lookup c, fun g c => tfs2.contains (g, c)⟩
def G : Pg := { toTb := B, gn := fun i => gln[i]?, fn := fun i => fnames[i]?, rn := fun i => rns[i]?, xn := fun i => xns[i]?, tn := fun i => tns[i]? }
def dD (i : Nat) (x : Str) : He.DefD := ⟨(x, none), x, x, defArgs (top i), defBody (top i), defScope (top i), [], []⟩
def mD (i j : Nat) (c m u : Str) : He.DefD := ⟨(c, some m), m, u, defArgs (mtop i j), defBody (mtop i j), defScope (mtop i j), [], []⟩
def dfs : List He.DefD := [dD 9 "pieces_of", dD 10 "done", dD 12 "_law_tape", dD 13 "_law_take", dD 15 "_law_done", dD 16 "_law_seen", dD 17 "_law_lost", dD 18 "law", dD 14 "_law_refused", mD 8 0 "Disk" "__init__" "Disk.__init__", mD 8 1 "Disk" "steps" "Disk.steps", mD 8 2 "Disk" "set_fuse" "Disk.set_fuse", mD 8 3 "Disk" "_step" "Disk._step", mD 8 4 "Disk" "names" "Disk.names", mD 8 5 "Disk" "size" "Disk.size", mD 8 6 "Disk" "read" "Disk.read", mD 8 7 "Disk" "_wait" "Disk._wait", mD 8 8 "Disk" "write" "Disk.write", mD 8 9 "Disk" "cut" "Disk.cut", mD 8 10 "Disk" "remove" "Disk.remove", mD 8 11 "Disk" "sync" "Disk.sync", mD 8 12 "Disk" "lose" "Disk.lose", mD 8 13 "Disk" "waits" "Disk.waits", mD 8 15 "Disk" "copy" "Disk.copy"]
def fas : List He.Fa := [.glo "pieces_of", .glo "done", .glo "_law_tape", .glo "_law_take", .glo "_law_done", .glo "_law_seen", .glo "_law_lost", .glo "law", .glo "_law_refused", .glo "InvalidDisk", .glo "PowerLost", .glo "LostError", .exc "InvalidDisk", .exc "PowerLost", .exm "InvalidDisk" "LostError" true, .exm "PowerLost" "LostError" true, .exm "PowerLost" "PowerLost" true, .glo "Disk", .cls "Disk", .mkr "Disk", .noat "Disk" "_kept", .noat "Disk" "_now", .noat "Disk" "_waiting", .noat "Disk" "_fuse", .noat "Disk" "_steps", .meth "Disk" "steps", .meth "Disk" "set_fuse", .meth "Disk" "_step", .meth "Disk" "names", .meth "Disk" "size", .meth "Disk" "read", .meth "Disk" "_wait", .meth "Disk" "write", .meth "Disk" "cut", .meth "Disk" "remove", .meth "Disk" "sync", .meth "Disk" "lose", .meth "Disk" "waits", .meth "Disk" "copy", .int "SECTOR" 16, .int "MOST_FILES" 40, .free "len", .free "abs", .free "int", .free "tuple", .free "all", .free "isinstance", .free "str", .free "range", .free "set", .free "list", .free "sorted", .free "any", .free "sum", .free "dict", .free "min"]
def exB (K : PySem.W.Frag) : Bool := K.all fun p => !(p.2.cls == .type "list")
def tfs : List He.Defn := [("law", none)]
def nms0 : List Str := [("_wall" : Str), ("__name__" : Str), ("LostError" : Str), ("InvalidDisk" : Str), ("PowerLost" : Str), ("SECTOR" : Str), ("MOST_FILES" : Str), ("Disk" : Str), ("pieces_of" : Str), ("done" : Str), ("_law_tape" : Str), ("_law_take" : Str), ("_law_refused" : Str), ("_law_done" : Str), ("_law_seen" : Str), ("_law_lost" : Str)]
def nms : List Str := nms0
abbrev R : PySem.W.OpenRow := PySem.W.OpenLaw.row PySem.Challenge.rw_nothinglost_k02_disks_that_lose
abbrev hk : PySem.W.Hook := He.hookX 6 fas dfs [] tfs exB
def ob (s : PySem.W.SharedT) : He.AlX := He.obsX 6 fas dfs [] tfs exB (HandSHeadRun.getT s)
theorem ob_eq (s : PySem.W.SharedT) : ob s = hk.obs s.abs := He.obsX_eq (HandSHeadRun.getT_eq s)
theorem run (w : World) : HandSHeadRun.RunEq R (PySem.W.view R.prog [18]) hk ob 6000 nms w := by
  intro os
  kernel_rfl
end K02
end
section
set_option Elab.async false
set_option linter.all false
set_option maxRecDepth 100000
set_option maxHeartbeats 0
namespace K02
open PySem PySem.Spec PyProof.Rows L2 Lt
theorem e0 : b0.py = defBody (top 9) := by kernel_rfl
theorem k0 : okSs (G.sg N0) false (defScope (top 9)) b0 = true := by kernel_rfl
theorem s0 : FnScope N0 [("place" : Str), ("row" : Str)] (defScope (top 9)) := ⟨rfl, rfl, rfl, by decide +kernel, rfl, by decide +kernel, by decide +kernel⟩
theorem e1 : b1.py = defBody (top 10) := by kernel_rfl
theorem k1 : okSs (G.sg N1) false (defScope (top 10)) b1 = true := by kernel_rfl
theorem s1 : FnScope N1 [("files" : Str), ("kind" : Str), ("name" : Str), ("place" : Str), ("row" : Str)] (defScope (top 10)) := ⟨rfl, rfl, rfl, by decide +kernel, rfl, by decide +kernel, by decide +kernel⟩
theorem e2 : b2.py = defBody (top 12) := by kernel_rfl
theorem k2 : okSs (G.sg N2) false (defScope (top 12)) b2 = true := by kernel_rfl
theorem s2 : FnScope N2 [("script" : Str)] (defScope (top 12)) := ⟨rfl, rfl, rfl, by decide +kernel, rfl, by decide +kernel, by decide +kernel⟩
theorem e3 : b3.py = defBody (top 13) := by kernel_rfl
theorem k3 : okSs (G.sg N3) false (defScope (top 13)) b3 = true := by kernel_rfl
theorem s3 : FnScope N3 [("tape" : Str), ("many" : Str)] (defScope (top 13)) := ⟨rfl, rfl, rfl, by decide +kernel, rfl, by decide +kernel, by decide +kernel⟩
theorem e4 : b4.py = defBody (top 15) := by kernel_rfl
theorem k4 : okSs (G.sg N4) false (defScope (top 15)) b4 = true := by kernel_rfl
theorem s4 : FnScope N4 [("files" : Str), ("deed" : Str)] (defScope (top 15)) := ⟨rfl, rfl, rfl, by decide +kernel, rfl, by decide +kernel, by decide +kernel⟩
theorem e5 : b5.py = defBody (top 16) := by kernel_rfl
theorem k5 : okSs (G.sg N5) false (defScope (top 16)) b5 = true := by kernel_rfl
theorem s5 : FnScope N5 [("files" : Str), ("waiting" : Str)] (defScope (top 16)) := ⟨rfl, rfl, rfl, by decide +kernel, rfl, by decide +kernel, by decide +kernel⟩
theorem e6 : b6.py = defBody (top 17) := by kernel_rfl
theorem k6 : okSs (G.sg N6) false (defScope (top 17)) b6 = true := by kernel_rfl
theorem s6 : FnScope N6 [("files" : Str), ("waiting" : Str), ("picks" : Str)] (defScope (top 17)) := ⟨rfl, rfl, rfl, by decide +kernel, rfl, by decide +kernel, by decide +kernel⟩
theorem e7 : b7.py = defBody (top 18) := by kernel_rfl
theorem k7 : okSs (G.sg N7) true (defScope (top 18)) b7 = true := by kernel_rfl
theorem s7 : FnScope N7 [("script" : Str)] (defScope (top 18)) := ⟨rfl, rfl, rfl, by decide +kernel, rfl, by decide +kernel, by decide +kernel⟩
theorem e8 : b8.py = defBody (mtop 8 0) := by kernel_rfl
theorem k8 : okSs (G.sg N8) false (defScope (mtop 8 0)) b8 = true := by kernel_rfl
theorem s8 : FnScope N8 [("self" : Str)] (defScope (mtop 8 0)) := ⟨rfl, rfl, rfl, by decide +kernel, rfl, by decide +kernel, by decide +kernel⟩
theorem e9 : b9.py = defBody (mtop 8 1) := by kernel_rfl
theorem k9 : okSs (G.sg N9) false (defScope (mtop 8 1)) b9 = true := by kernel_rfl
theorem s9 : FnScope N9 [("self" : Str)] (defScope (mtop 8 1)) := ⟨rfl, rfl, rfl, by decide +kernel, rfl, by decide +kernel, by decide +kernel⟩
theorem e10 : b10.py = defBody (mtop 8 2) := by kernel_rfl
theorem k10 : okSs (G.sg N10) false (defScope (mtop 8 2)) b10 = true := by kernel_rfl
theorem s10 : FnScope N10 [("self" : Str), ("many" : Str)] (defScope (mtop 8 2)) := ⟨rfl, rfl, rfl, by decide +kernel, rfl, by decide +kernel, by decide +kernel⟩
theorem e11 : b11.py = defBody (mtop 8 3) := by kernel_rfl
theorem k11 : okSs (G.sg N11) false (defScope (mtop 8 3)) b11 = true := by kernel_rfl
theorem s11 : FnScope N11 [("self" : Str)] (defScope (mtop 8 3)) := ⟨rfl, rfl, rfl, by decide +kernel, rfl, by decide +kernel, by decide +kernel⟩
theorem e12 : b12.py = defBody (mtop 8 4) := by kernel_rfl
theorem k12 : okSs (G.sg N12) false (defScope (mtop 8 4)) b12 = true := by kernel_rfl
theorem s12 : FnScope N12 [("self" : Str)] (defScope (mtop 8 4)) := ⟨rfl, rfl, rfl, by decide +kernel, rfl, by decide +kernel, by decide +kernel⟩
theorem e13 : b13.py = defBody (mtop 8 5) := by kernel_rfl
theorem k13 : okSs (G.sg N13) false (defScope (mtop 8 5)) b13 = true := by kernel_rfl
theorem s13 : FnScope N13 [("self" : Str), ("name" : Str)] (defScope (mtop 8 5)) := ⟨rfl, rfl, rfl, by decide +kernel, rfl, by decide +kernel, by decide +kernel⟩
theorem e14 : b14.py = defBody (mtop 8 6) := by kernel_rfl
theorem k14 : okSs (G.sg N14) false (defScope (mtop 8 6)) b14 = true := by kernel_rfl
theorem s14 : FnScope N14 [("self" : Str), ("name" : Str)] (defScope (mtop 8 6)) := ⟨rfl, rfl, rfl, by decide +kernel, rfl, by decide +kernel, by decide +kernel⟩
theorem e15 : b15.py = defBody (mtop 8 7) := by kernel_rfl
theorem k15 : okSs (G.sg N15) false (defScope (mtop 8 7)) b15 = true := by kernel_rfl
theorem s15 : FnScope N15 [("self" : Str), ("kind" : Str), ("name" : Str), ("place" : Str), ("row" : Str)] (defScope (mtop 8 7)) := ⟨rfl, rfl, rfl, by decide +kernel, rfl, by decide +kernel, by decide +kernel⟩
theorem e16 : b16.py = defBody (mtop 8 8) := by kernel_rfl
theorem k16 : okSs (G.sg N16) false (defScope (mtop 8 8)) b16 = true := by kernel_rfl
theorem s16 : FnScope N16 [("self" : Str), ("name" : Str), ("place" : Str), ("row" : Str)] (defScope (mtop 8 8)) := ⟨rfl, rfl, rfl, by decide +kernel, rfl, by decide +kernel, by decide +kernel⟩
theorem e17 : b17.py = defBody (mtop 8 9) := by kernel_rfl
theorem k17 : okSs (G.sg N17) false (defScope (mtop 8 9)) b17 = true := by kernel_rfl
theorem s17 : FnScope N17 [("self" : Str), ("name" : Str), ("size" : Str)] (defScope (mtop 8 9)) := ⟨rfl, rfl, rfl, by decide +kernel, rfl, by decide +kernel, by decide +kernel⟩
theorem e18 : b18.py = defBody (mtop 8 10) := by kernel_rfl
theorem k18 : okSs (G.sg N18) false (defScope (mtop 8 10)) b18 = true := by kernel_rfl
theorem s18 : FnScope N18 [("self" : Str), ("name" : Str)] (defScope (mtop 8 10)) := ⟨rfl, rfl, rfl, by decide +kernel, rfl, by decide +kernel, by decide +kernel⟩
theorem e19 : b19.py = defBody (mtop 8 11) := by kernel_rfl
theorem k19 : okSs (G.sg N19) false (defScope (mtop 8 11)) b19 = true := by kernel_rfl
theorem s19 : FnScope N19 [("self" : Str), ("name" : Str)] (defScope (mtop 8 11)) := ⟨rfl, rfl, rfl, by decide +kernel, rfl, by decide +kernel, by decide +kernel⟩
theorem e20 : b20.py = defBody (mtop 8 12) := by kernel_rfl
theorem k20 : okSs (G.sg N20) false (defScope (mtop 8 12)) b20 = true := by kernel_rfl
theorem s20 : FnScope N20 [("self" : Str), ("picks" : Str)] (defScope (mtop 8 12)) := ⟨rfl, rfl, rfl, by decide +kernel, rfl, by decide +kernel, by decide +kernel⟩
theorem e21 : b21.py = defBody (mtop 8 13) := by kernel_rfl
theorem k21 : okSs (G.sg N21) false (defScope (mtop 8 13)) b21 = true := by kernel_rfl
theorem s21 : FnScope N21 [("self" : Str)] (defScope (mtop 8 13)) := ⟨rfl, rfl, rfl, by decide +kernel, rfl, by decide +kernel, by decide +kernel⟩
theorem e22 : b22.py = defBody (mtop 8 15) := by kernel_rfl
theorem k22 : okSs (G.sg N22) false (defScope (mtop 8 15)) b22 = true := by kernel_rfl
theorem s22 : FnScope N22 [("self" : Str)] (defScope (mtop 8 15)) := ⟨rfl, rfl, rfl, by decide +kernel, rfl, by decide +kernel, by decide +kernel⟩
end K02
end
section
set_option Elab.async false
set_option linter.all false
set_option maxRecDepth 100000
set_option maxHeartbeats 0
namespace K02
open PySem PySem.Spec PyProof.Rows L2 Lt
def qOf (K : PySem.W.Frag) : Wq := ⟨(tfs.map (He.cT K)).map fun p => (p.2, lamQ "law" (defScope (top 18))), fun c => match xns[c]? with
  | some x => .ref (He.ga K x)
  | none => .none⟩
section
variable {w : World} {h : Heap} {K : PySem.W.Frag} {mg : Str → Option Value} {base : Heap}
theorem fh0 (KX : K.In h) (GX : h.Ns mainGlobals mg) (c : He.SaysX fas dfs [] tfs exB w h K) (TB : ∀ p ∈ tfs.map (He.cT K), LamX.TabB base mg p.1 p.2) : FnHyp K mg base (qOf K) G 0 "pieces_of" 2 := by
  obtain ⟨fd, F⟩ := c.t.d.def_ 0 (d := dD 9 "pieces_of") rfl
  refine ⟨_, fd, defArgs (top 9), defScope (top 9), N0, [("place" : Str), ("row" : Str)], f0, false, He.glo_ok KX GX (c.t.d.fact 0 (f := .glo "pieces_of") rfl), ?_, FunD.bindsN F (fun _ _ _ _ _ _ us hl => match us, hl with | [_, _], _ => rfl), by decide, s0, rfl, rfl, rfl, rfl, k0, fun z => nomatch z⟩
  show FunD K _ _ _ b0.py _ _ _ _ _
  rw [e0]
  exact F
theorem fh1 (KX : K.In h) (GX : h.Ns mainGlobals mg) (c : He.SaysX fas dfs [] tfs exB w h K) (TB : ∀ p ∈ tfs.map (He.cT K), LamX.TabB base mg p.1 p.2) : FnHyp K mg base (qOf K) G 1 "done" 5 := by
  obtain ⟨fd, F⟩ := c.t.d.def_ 1 (d := dD 10 "done") rfl
  refine ⟨_, fd, defArgs (top 10), defScope (top 10), N1, [("files" : Str), ("kind" : Str), ("name" : Str), ("place" : Str), ("row" : Str)], f1, false, He.glo_ok KX GX (c.t.d.fact 1 (f := .glo "done") rfl), ?_, FunD.bindsN F (fun _ _ _ _ _ _ us hl => match us, hl with | [_, _, _, _, _], _ => rfl), by decide, s1, rfl, rfl, rfl, rfl, k1, fun z => nomatch z⟩
  show FunD K _ _ _ b1.py _ _ _ _ _
  rw [e1]
  exact F
theorem fh2 (KX : K.In h) (GX : h.Ns mainGlobals mg) (c : He.SaysX fas dfs [] tfs exB w h K) (TB : ∀ p ∈ tfs.map (He.cT K), LamX.TabB base mg p.1 p.2) : FnHyp K mg base (qOf K) G 2 "_law_tape" 1 := by
  obtain ⟨fd, F⟩ := c.t.d.def_ 2 (d := dD 12 "_law_tape") rfl
  refine ⟨_, fd, defArgs (top 12), defScope (top 12), N2, [("script" : Str)], f2, false, He.glo_ok KX GX (c.t.d.fact 2 (f := .glo "_law_tape") rfl), ?_, FunD.bindsN F (fun _ _ _ _ _ _ us hl => match us, hl with | [_], _ => rfl), by decide, s2, rfl, rfl, rfl, rfl, k2, fun z => nomatch z⟩
  show FunD K _ _ _ b2.py _ _ _ _ _
  rw [e2]
  exact F
theorem fh3 (KX : K.In h) (GX : h.Ns mainGlobals mg) (c : He.SaysX fas dfs [] tfs exB w h K) (TB : ∀ p ∈ tfs.map (He.cT K), LamX.TabB base mg p.1 p.2) : FnHyp K mg base (qOf K) G 3 "_law_take" 2 := by
  obtain ⟨fd, F⟩ := c.t.d.def_ 3 (d := dD 13 "_law_take") rfl
  refine ⟨_, fd, defArgs (top 13), defScope (top 13), N3, [("tape" : Str), ("many" : Str)], f3, false, He.glo_ok KX GX (c.t.d.fact 3 (f := .glo "_law_take") rfl), ?_, FunD.bindsN F (fun _ _ _ _ _ _ us hl => match us, hl with | [_, _], _ => rfl), by decide, s3, rfl, rfl, rfl, rfl, k3, fun z => nomatch z⟩
  show FunD K _ _ _ b3.py _ _ _ _ _
  rw [e3]
  exact F
theorem fh4 (KX : K.In h) (GX : h.Ns mainGlobals mg) (c : He.SaysX fas dfs [] tfs exB w h K) (TB : ∀ p ∈ tfs.map (He.cT K), LamX.TabB base mg p.1 p.2) : FnHyp K mg base (qOf K) G 4 "_law_done" 2 := by
  obtain ⟨fd, F⟩ := c.t.d.def_ 4 (d := dD 15 "_law_done") rfl
  refine ⟨_, fd, defArgs (top 15), defScope (top 15), N4, [("files" : Str), ("deed" : Str)], f4, false, He.glo_ok KX GX (c.t.d.fact 4 (f := .glo "_law_done") rfl), ?_, FunD.bindsN F (fun _ _ _ _ _ _ us hl => match us, hl with | [_, _], _ => rfl), by decide, s4, rfl, rfl, rfl, rfl, k4, fun z => nomatch z⟩
  show FunD K _ _ _ b4.py _ _ _ _ _
  rw [e4]
  exact F
theorem fh5 (KX : K.In h) (GX : h.Ns mainGlobals mg) (c : He.SaysX fas dfs [] tfs exB w h K) (TB : ∀ p ∈ tfs.map (He.cT K), LamX.TabB base mg p.1 p.2) : FnHyp K mg base (qOf K) G 5 "_law_seen" 2 := by
  obtain ⟨fd, F⟩ := c.t.d.def_ 5 (d := dD 16 "_law_seen") rfl
  refine ⟨_, fd, defArgs (top 16), defScope (top 16), N5, [("files" : Str), ("waiting" : Str)], f5, false, He.glo_ok KX GX (c.t.d.fact 5 (f := .glo "_law_seen") rfl), ?_, FunD.bindsN F (fun _ _ _ _ _ _ us hl => match us, hl with | [_, _], _ => rfl), by decide, s5, rfl, rfl, rfl, rfl, k5, fun z => nomatch z⟩
  show FunD K _ _ _ b5.py _ _ _ _ _
  rw [e5]
  exact F
theorem fh6 (KX : K.In h) (GX : h.Ns mainGlobals mg) (c : He.SaysX fas dfs [] tfs exB w h K) (TB : ∀ p ∈ tfs.map (He.cT K), LamX.TabB base mg p.1 p.2) : FnHyp K mg base (qOf K) G 6 "_law_lost" 3 := by
  obtain ⟨fd, F⟩ := c.t.d.def_ 6 (d := dD 17 "_law_lost") rfl
  refine ⟨_, fd, defArgs (top 17), defScope (top 17), N6, [("files" : Str), ("waiting" : Str), ("picks" : Str)], f6, false, He.glo_ok KX GX (c.t.d.fact 6 (f := .glo "_law_lost") rfl), ?_, FunD.bindsN F (fun _ _ _ _ _ _ us hl => match us, hl with | [_, _, _], _ => rfl), by decide, s6, rfl, rfl, rfl, rfl, k6, fun z => nomatch z⟩
  show FunD K _ _ _ b6.py _ _ _ _ _
  rw [e6]
  exact F
theorem lam7 (KX : K.In h) (GX : h.Ns mainGlobals mg) (c : He.SaysX fas dfs [] tfs exB w h K) (TB : ∀ p ∈ tfs.map (He.cT K), LamX.TabB base mg p.1 p.2) {fd : FuncData} (F : FunD K "law" "law" (defArgs (top 18)) (defBody (top 18)) (defScope (top 18)) [] [] (He.fAd K ("law", none)) fd) : ∃ c Pt, fd.code = .ref c ∧ LamX.TabB base mg c Pt ∧ (Pt, lamQ "law" (defScope (top 18))) ∈ (qOf K).T ∧ ∀ p ∈ (qOf K).T, p.1 = Pt → p.2 = lamQ "law" (defScope (top 18)) := by
  obtain ⟨oc, od, dV, kV, doc, pm, an, cdv, ct, osl, rfl, lk, hcd, _, _⟩ := F.ex
  obtain ⟨cc, rfl⟩ := He.codeIn_ref hcd
  have e : He.codeOf K ("law", none) = cc := He.codeOf_eq lk rfl
  have m : He.cT K ("law", none) ∈ tfs.map (He.cT K) := List.mem_map_of_mem List.mem_cons_self
  refine ⟨cc, (He.cT K ("law", none)).2, rfl, ?_, List.mem_map_of_mem (f := fun p => (p.2, lamQ "law" (defScope (top 18)))) m, fun p hp _ => ?_⟩
  · have z := TB _ m
    rw [show (He.cT K ("law", none)).1 = cc from e] at z
    exact z
  · obtain ⟨p0, _, rfl⟩ := List.mem_map.mp hp
    rfl
theorem fh7 (KX : K.In h) (GX : h.Ns mainGlobals mg) (c : He.SaysX fas dfs [] tfs exB w h K) (TB : ∀ p ∈ tfs.map (He.cT K), LamX.TabB base mg p.1 p.2) : FnHyp K mg base (qOf K) G 7 "law" 1 := by
  obtain ⟨fd, F⟩ := c.t.d.def_ 7 (d := dD 18 "law") rfl
  refine ⟨_, fd, defArgs (top 18), defScope (top 18), N7, [("script" : Str)], f7, true, He.glo_ok KX GX (c.t.d.fact 7 (f := .glo "law") rfl), ?_, FunD.bindsN F (fun _ _ _ _ _ _ us hl => match us, hl with | [_], _ => rfl), by decide, s7, rfl, rfl, rfl, rfl, k7, fun _ => lam7 KX GX c TB F⟩
  show FunD K _ _ _ b7.py _ _ _ _ _
  rw [e7]
  exact F
theorem mh8 (KX : K.In h) (GX : h.Ns mainGlobals mg) (c : He.SaysX fas dfs [] tfs exB w h K) (TB : ∀ p ∈ tfs.map (He.cT K), LamX.TabB base mg p.1 p.2) : MtHyp K mg base (qOf K) G 8 "Disk" "__init__" 1 := by
  obtain ⟨fd, F⟩ := c.t.d.def_ 9 (d := mD 8 0 "Disk" "__init__" "Disk.__init__") rfl
  refine ⟨fd, "Disk.__init__", defArgs (mtop 8 0), defScope (mtop 8 0), N8, [("self" : Str)], f8, ?_, FunD.bindsN F (fun _ _ _ _ _ _ us hl => match us, hl with | [_], _ => rfl), s8, rfl, rfl, rfl, rfl, k8⟩
  show FunD K _ _ _ b8.py _ _ _ _ _
  rw [e8]
  exact F
theorem mh9 (KX : K.In h) (GX : h.Ns mainGlobals mg) (c : He.SaysX fas dfs [] tfs exB w h K) (TB : ∀ p ∈ tfs.map (He.cT K), LamX.TabB base mg p.1 p.2) : MtHyp K mg base (qOf K) G 9 "Disk" "steps" 1 := by
  obtain ⟨fd, F⟩ := c.t.d.def_ 10 (d := mD 8 1 "Disk" "steps" "Disk.steps") rfl
  refine ⟨fd, "Disk.steps", defArgs (mtop 8 1), defScope (mtop 8 1), N9, [("self" : Str)], f9, ?_, FunD.bindsN F (fun _ _ _ _ _ _ us hl => match us, hl with | [_], _ => rfl), s9, rfl, rfl, rfl, rfl, k9⟩
  show FunD K _ _ _ b9.py _ _ _ _ _
  rw [e9]
  exact F
theorem mh10 (KX : K.In h) (GX : h.Ns mainGlobals mg) (c : He.SaysX fas dfs [] tfs exB w h K) (TB : ∀ p ∈ tfs.map (He.cT K), LamX.TabB base mg p.1 p.2) : MtHyp K mg base (qOf K) G 10 "Disk" "set_fuse" 2 := by
  obtain ⟨fd, F⟩ := c.t.d.def_ 11 (d := mD 8 2 "Disk" "set_fuse" "Disk.set_fuse") rfl
  refine ⟨fd, "Disk.set_fuse", defArgs (mtop 8 2), defScope (mtop 8 2), N10, [("self" : Str), ("many" : Str)], f10, ?_, FunD.bindsN F (fun _ _ _ _ _ _ us hl => match us, hl with | [_, _], _ => rfl), s10, rfl, rfl, rfl, rfl, k10⟩
  show FunD K _ _ _ b10.py _ _ _ _ _
  rw [e10]
  exact F
theorem mh11 (KX : K.In h) (GX : h.Ns mainGlobals mg) (c : He.SaysX fas dfs [] tfs exB w h K) (TB : ∀ p ∈ tfs.map (He.cT K), LamX.TabB base mg p.1 p.2) : MtHyp K mg base (qOf K) G 11 "Disk" "_step" 1 := by
  obtain ⟨fd, F⟩ := c.t.d.def_ 12 (d := mD 8 3 "Disk" "_step" "Disk._step") rfl
  refine ⟨fd, "Disk._step", defArgs (mtop 8 3), defScope (mtop 8 3), N11, [("self" : Str)], f11, ?_, FunD.bindsN F (fun _ _ _ _ _ _ us hl => match us, hl with | [_], _ => rfl), s11, rfl, rfl, rfl, rfl, k11⟩
  show FunD K _ _ _ b11.py _ _ _ _ _
  rw [e11]
  exact F
theorem mh12 (KX : K.In h) (GX : h.Ns mainGlobals mg) (c : He.SaysX fas dfs [] tfs exB w h K) (TB : ∀ p ∈ tfs.map (He.cT K), LamX.TabB base mg p.1 p.2) : MtHyp K mg base (qOf K) G 12 "Disk" "names" 1 := by
  obtain ⟨fd, F⟩ := c.t.d.def_ 13 (d := mD 8 4 "Disk" "names" "Disk.names") rfl
  refine ⟨fd, "Disk.names", defArgs (mtop 8 4), defScope (mtop 8 4), N12, [("self" : Str)], f12, ?_, FunD.bindsN F (fun _ _ _ _ _ _ us hl => match us, hl with | [_], _ => rfl), s12, rfl, rfl, rfl, rfl, k12⟩
  show FunD K _ _ _ b12.py _ _ _ _ _
  rw [e12]
  exact F
theorem mh13 (KX : K.In h) (GX : h.Ns mainGlobals mg) (c : He.SaysX fas dfs [] tfs exB w h K) (TB : ∀ p ∈ tfs.map (He.cT K), LamX.TabB base mg p.1 p.2) : MtHyp K mg base (qOf K) G 13 "Disk" "size" 2 := by
  obtain ⟨fd, F⟩ := c.t.d.def_ 14 (d := mD 8 5 "Disk" "size" "Disk.size") rfl
  refine ⟨fd, "Disk.size", defArgs (mtop 8 5), defScope (mtop 8 5), N13, [("self" : Str), ("name" : Str)], f13, ?_, FunD.bindsN F (fun _ _ _ _ _ _ us hl => match us, hl with | [_, _], _ => rfl), s13, rfl, rfl, rfl, rfl, k13⟩
  show FunD K _ _ _ b13.py _ _ _ _ _
  rw [e13]
  exact F
theorem mh14 (KX : K.In h) (GX : h.Ns mainGlobals mg) (c : He.SaysX fas dfs [] tfs exB w h K) (TB : ∀ p ∈ tfs.map (He.cT K), LamX.TabB base mg p.1 p.2) : MtHyp K mg base (qOf K) G 14 "Disk" "read" 2 := by
  obtain ⟨fd, F⟩ := c.t.d.def_ 15 (d := mD 8 6 "Disk" "read" "Disk.read") rfl
  refine ⟨fd, "Disk.read", defArgs (mtop 8 6), defScope (mtop 8 6), N14, [("self" : Str), ("name" : Str)], f14, ?_, FunD.bindsN F (fun _ _ _ _ _ _ us hl => match us, hl with | [_, _], _ => rfl), s14, rfl, rfl, rfl, rfl, k14⟩
  show FunD K _ _ _ b14.py _ _ _ _ _
  rw [e14]
  exact F
theorem mh15 (KX : K.In h) (GX : h.Ns mainGlobals mg) (c : He.SaysX fas dfs [] tfs exB w h K) (TB : ∀ p ∈ tfs.map (He.cT K), LamX.TabB base mg p.1 p.2) : MtHyp K mg base (qOf K) G 15 "Disk" "_wait" 5 := by
  obtain ⟨fd, F⟩ := c.t.d.def_ 16 (d := mD 8 7 "Disk" "_wait" "Disk._wait") rfl
  refine ⟨fd, "Disk._wait", defArgs (mtop 8 7), defScope (mtop 8 7), N15, [("self" : Str), ("kind" : Str), ("name" : Str), ("place" : Str), ("row" : Str)], f15, ?_, FunD.bindsN F (fun _ _ _ _ _ _ us hl => match us, hl with | [_, _, _, _, _], _ => rfl), s15, rfl, rfl, rfl, rfl, k15⟩
  show FunD K _ _ _ b15.py _ _ _ _ _
  rw [e15]
  exact F
theorem mh16 (KX : K.In h) (GX : h.Ns mainGlobals mg) (c : He.SaysX fas dfs [] tfs exB w h K) (TB : ∀ p ∈ tfs.map (He.cT K), LamX.TabB base mg p.1 p.2) : MtHyp K mg base (qOf K) G 16 "Disk" "write" 4 := by
  obtain ⟨fd, F⟩ := c.t.d.def_ 17 (d := mD 8 8 "Disk" "write" "Disk.write") rfl
  refine ⟨fd, "Disk.write", defArgs (mtop 8 8), defScope (mtop 8 8), N16, [("self" : Str), ("name" : Str), ("place" : Str), ("row" : Str)], f16, ?_, FunD.bindsN F (fun _ _ _ _ _ _ us hl => match us, hl with | [_, _, _, _], _ => rfl), s16, rfl, rfl, rfl, rfl, k16⟩
  show FunD K _ _ _ b16.py _ _ _ _ _
  rw [e16]
  exact F
theorem mh17 (KX : K.In h) (GX : h.Ns mainGlobals mg) (c : He.SaysX fas dfs [] tfs exB w h K) (TB : ∀ p ∈ tfs.map (He.cT K), LamX.TabB base mg p.1 p.2) : MtHyp K mg base (qOf K) G 17 "Disk" "cut" 3 := by
  obtain ⟨fd, F⟩ := c.t.d.def_ 18 (d := mD 8 9 "Disk" "cut" "Disk.cut") rfl
  refine ⟨fd, "Disk.cut", defArgs (mtop 8 9), defScope (mtop 8 9), N17, [("self" : Str), ("name" : Str), ("size" : Str)], f17, ?_, FunD.bindsN F (fun _ _ _ _ _ _ us hl => match us, hl with | [_, _, _], _ => rfl), s17, rfl, rfl, rfl, rfl, k17⟩
  show FunD K _ _ _ b17.py _ _ _ _ _
  rw [e17]
  exact F
theorem mh18 (KX : K.In h) (GX : h.Ns mainGlobals mg) (c : He.SaysX fas dfs [] tfs exB w h K) (TB : ∀ p ∈ tfs.map (He.cT K), LamX.TabB base mg p.1 p.2) : MtHyp K mg base (qOf K) G 18 "Disk" "remove" 2 := by
  obtain ⟨fd, F⟩ := c.t.d.def_ 19 (d := mD 8 10 "Disk" "remove" "Disk.remove") rfl
  refine ⟨fd, "Disk.remove", defArgs (mtop 8 10), defScope (mtop 8 10), N18, [("self" : Str), ("name" : Str)], f18, ?_, FunD.bindsN F (fun _ _ _ _ _ _ us hl => match us, hl with | [_, _], _ => rfl), s18, rfl, rfl, rfl, rfl, k18⟩
  show FunD K _ _ _ b18.py _ _ _ _ _
  rw [e18]
  exact F
theorem mh19 (KX : K.In h) (GX : h.Ns mainGlobals mg) (c : He.SaysX fas dfs [] tfs exB w h K) (TB : ∀ p ∈ tfs.map (He.cT K), LamX.TabB base mg p.1 p.2) : MtHyp K mg base (qOf K) G 19 "Disk" "sync" 2 := by
  obtain ⟨fd, F⟩ := c.t.d.def_ 20 (d := mD 8 11 "Disk" "sync" "Disk.sync") rfl
  refine ⟨fd, "Disk.sync", defArgs (mtop 8 11), defScope (mtop 8 11), N19, [("self" : Str), ("name" : Str)], f19, ?_, FunD.bindsN F (fun _ _ _ _ _ _ us hl => match us, hl with | [_, _], _ => rfl), s19, rfl, rfl, rfl, rfl, k19⟩
  show FunD K _ _ _ b19.py _ _ _ _ _
  rw [e19]
  exact F
theorem mh20 (KX : K.In h) (GX : h.Ns mainGlobals mg) (c : He.SaysX fas dfs [] tfs exB w h K) (TB : ∀ p ∈ tfs.map (He.cT K), LamX.TabB base mg p.1 p.2) : MtHyp K mg base (qOf K) G 20 "Disk" "lose" 2 := by
  obtain ⟨fd, F⟩ := c.t.d.def_ 21 (d := mD 8 12 "Disk" "lose" "Disk.lose") rfl
  refine ⟨fd, "Disk.lose", defArgs (mtop 8 12), defScope (mtop 8 12), N20, [("self" : Str), ("picks" : Str)], f20, ?_, FunD.bindsN F (fun _ _ _ _ _ _ us hl => match us, hl with | [_, _], _ => rfl), s20, rfl, rfl, rfl, rfl, k20⟩
  show FunD K _ _ _ b20.py _ _ _ _ _
  rw [e20]
  exact F
theorem mh21 (KX : K.In h) (GX : h.Ns mainGlobals mg) (c : He.SaysX fas dfs [] tfs exB w h K) (TB : ∀ p ∈ tfs.map (He.cT K), LamX.TabB base mg p.1 p.2) : MtHyp K mg base (qOf K) G 21 "Disk" "waits" 1 := by
  obtain ⟨fd, F⟩ := c.t.d.def_ 22 (d := mD 8 13 "Disk" "waits" "Disk.waits") rfl
  refine ⟨fd, "Disk.waits", defArgs (mtop 8 13), defScope (mtop 8 13), N21, [("self" : Str)], f21, ?_, FunD.bindsN F (fun _ _ _ _ _ _ us hl => match us, hl with | [_], _ => rfl), s21, rfl, rfl, rfl, rfl, k21⟩
  show FunD K _ _ _ b21.py _ _ _ _ _
  rw [e21]
  exact F
theorem mh22 (KX : K.In h) (GX : h.Ns mainGlobals mg) (c : He.SaysX fas dfs [] tfs exB w h K) (TB : ∀ p ∈ tfs.map (He.cT K), LamX.TabB base mg p.1 p.2) : MtHyp K mg base (qOf K) G 22 "Disk" "copy" 1 := by
  obtain ⟨fd, F⟩ := c.t.d.def_ 23 (d := mD 8 15 "Disk" "copy" "Disk.copy") rfl
  refine ⟨fd, "Disk.copy", defArgs (mtop 8 15), defScope (mtop 8 15), N22, [("self" : Str)], f22, ?_, FunD.bindsN F (fun _ _ _ _ _ _ us hl => match us, hl with | [_], _ => rfl), s22, rfl, rfl, rfl, rfl, k22⟩
  show FunD K _ _ _ b22.py _ _ _ _ _
  rw [e22]
  exact F
theorem re0 : defBody (top 14) = [.Try [.Expr (.Call (.Name "call" ⟨138, 8, 138, 12⟩) [] [] ⟨138, 8, 138, 14⟩) ⟨138, 8, 138, 14⟩] [.ExceptHandler (some (.Name "LostError" ⟨139, 11, 139, 20⟩)) none [.Return (some (.Constant (.bool true) 0 ⟨140, 15, 140, 19⟩)) ⟨140, 8, 140, 19⟩] ⟨139, 4, 140, 19⟩] [] [] ⟨137, 4, 140, 19⟩, .Return (some (.Constant (.bool false) 0 ⟨141, 11, 141, 16⟩)) ⟨141, 4, 141, 16⟩] := by kernel_rfl
theorem rh0 (KX : K.In h) (GX : h.Ns mainGlobals mg) (c : He.SaysX fas dfs [] tfs exB w h K) (TB : ∀ p ∈ tfs.map (He.cT K), LamX.TabB base mg p.1 p.2) : RefF K mg (qOf K) G.rf 0 "_law_refused" := by
  obtain ⟨fd, F⟩ := c.t.d.def_ 8 (d := dD 14 "_law_refused") rfl
  have F2 : FunD K "_law_refused" "_law_refused" (defArgs (top 14)) (defBody (top 14)) (defScope (top 14)) [] [] (He.fAd K ("_law_refused", none)) fd := F
  have hb := FunD.bindsN (ps := [("call" : Str)]) F2 (fun _ _ _ _ _ _ us hl => match us, hl with | [_], _ => rfl)
  rw [re0] at F2
  refine ⟨"call", "LostError", _, _, _, He.ga K "LostError", fd, [("call" : Str)], _, _, _, _, _, _, _, _, _, _, _, _, F2, hb, He.glo_ok KX GX (c.t.d.fact 8 (f := .glo "_law_refused") rfl), ⟨rfl, rfl, rfl, by decide +kernel, rfl, by decide +kernel, by decide +kernel⟩, rfl, .inl (by decide +kernel), by decide +kernel, He.glo_ok KX GX (c.t.d.fact 11 (f := .glo "LostError") rfl), by decide, fun f => rfl, fun cc hc => ?_, by decide, by decide, by decide⟩
  match cc, hc with
  | 0, _ => exact He.exm_ok (c.t.d.fact 14 (f := .exm "InvalidDisk" "LostError" true) rfl)
  | 1, _ => exact He.exm_ok (c.t.d.fact 15 (f := .exm "PowerLost" "LostError" true) rfl)
  | n + 2, hc =>
    have : rfs.contains (0, n + 2) = false := by simp [rfs]
    exact absurd (show rfs.contains (0, n + 2) = true from hc) (by rw [this]; decide)
theorem hyp (KX : K.In h) (GX : h.Ns mainGlobals mg) (c : He.SaysX fas dfs [] tfs exB w h K) (TB : ∀ p ∈ tfs.map (He.cT K), LamX.TabB base mg p.1 p.2) : PgHyp K mg base (qOf K) G where
  bn := List.forall_mem_cons.mpr ⟨He.free_ok KX GX (c.t.d.fact 41 (f := .free "len") rfl), List.forall_mem_cons.mpr ⟨He.free_ok KX GX (c.t.d.fact 42 (f := .free "abs") rfl), List.forall_mem_cons.mpr ⟨He.free_ok KX GX (c.t.d.fact 43 (f := .free "int") rfl), List.forall_mem_cons.mpr ⟨He.free_ok KX GX (c.t.d.fact 44 (f := .free "tuple") rfl), List.forall_mem_cons.mpr ⟨He.free_ok KX GX (c.t.d.fact 45 (f := .free "all") rfl), List.forall_mem_cons.mpr ⟨He.free_ok KX GX (c.t.d.fact 46 (f := .free "isinstance") rfl), List.forall_mem_cons.mpr ⟨He.free_ok KX GX (c.t.d.fact 47 (f := .free "str") rfl), List.forall_mem_cons.mpr ⟨He.free_ok KX GX (c.t.d.fact 48 (f := .free "range") rfl), List.forall_mem_cons.mpr ⟨He.free_ok KX GX (c.t.d.fact 49 (f := .free "set") rfl), List.forall_mem_cons.mpr ⟨He.free_ok KX GX (c.t.d.fact 50 (f := .free "list") rfl), List.forall_mem_cons.mpr ⟨He.free_ok KX GX (c.t.d.fact 51 (f := .free "sorted") rfl), List.forall_mem_cons.mpr ⟨He.free_ok KX GX (c.t.d.fact 52 (f := .free "any") rfl), List.forall_mem_cons.mpr ⟨He.free_ok KX GX (c.t.d.fact 53 (f := .free "sum") rfl), List.forall_mem_cons.mpr ⟨He.free_ok KX GX (c.t.d.fact 54 (f := .free "dict") rfl), List.forall_mem_cons.mpr ⟨He.free_ok KX GX (c.t.d.fact 55 (f := .free "min") rfl), fun _ h => absurd h List.not_mem_nil⟩⟩⟩⟩⟩⟩⟩⟩⟩⟩⟩⟩⟩⟩⟩
  gv := fun j v x h1 h2 => by
    match j, h1, h2 with
    | 0, h1, h2 =>
      cases h1; cases h2
      obtain ⟨t, e⟩ := He.int_ok KX GX (c.t.d.fact 39 (f := .int "SECTOR" 16) rfl)
      exact ⟨_, .int _, e, ⟨t, rfl⟩, fun _ _ => .int _⟩
    | 1, h1, h2 =>
      cases h1; cases h2
      obtain ⟨t, e⟩ := He.int_ok KX GX (c.t.d.fact 40 (f := .int "MOST_FILES" 40) rfl)
      exact ⟨_, .int _, e, ⟨t, rfl⟩, fun _ _ => .int _⟩
    | n + 2, h1, h2 => cases h1
  xv := fun j x h1 => by
    match j, h1 with
    | 0, h1 =>
      cases h1
      obtain ⟨e1, e2, e3, e4⟩ := He.exc_ok (c.t.d.fact 12 (f := .exc "InvalidDisk") rfl)
      exact ⟨He.ga K "InvalidDisk", rfl, He.glo_ok KX GX (c.t.d.fact 9 (f := .glo "InvalidDisk") rfl), e1, e2, e3, e4, by decide⟩
    | 1, h1 =>
      cases h1
      obtain ⟨e1, e2, e3, e4⟩ := He.exc_ok (c.t.d.fact 13 (f := .exc "PowerLost") rfl)
      exact ⟨He.ga K "PowerLost", rfl, He.glo_ok KX GX (c.t.d.fact 10 (f := .glo "PowerLost") rfl), e1, e2, e3, e4, by decide⟩
    | n + 2, h1 => cases h1
  rv := fun g x h1 => by
    match g, h1 with
    | 0, h1 => cases h1; exact rh0 KX GX c TB
    | n + 1, h1 => cases h1
  fv := fun f x np h1 => by
    match f, h1 with
    | 0, h1 => cases h1; exact fh0 KX GX c TB
    | 1, h1 => cases h1; exact fh1 KX GX c TB
    | 2, h1 => cases h1; exact fh2 KX GX c TB
    | 3, h1 => cases h1; exact fh3 KX GX c TB
    | 4, h1 => cases h1; exact fh4 KX GX c TB
    | 5, h1 => cases h1; exact fh5 KX GX c TB
    | 6, h1 => cases h1; exact fh6 KX GX c TB
    | 7, h1 => cases h1; exact fh7 KX GX c TB
    | n + 8, h1 => cases h1
  av := fun cc ff h => by
    have hm : (cc, ff) ∈ avs := List.contains_iff_mem.mp h
    have all : ∀ p ∈ avs, Cls K (He.ga K p.1) ∧ NoAttr K (He.ga K p.1) p.2 := List.forall_mem_cons.mpr ⟨⟨He.cls_ok (c.t.d.fact 18 (f := .cls "Disk") rfl), He.noat_ok (c.t.d.fact 20 (f := .noat "Disk" "_kept") rfl)⟩, List.forall_mem_cons.mpr ⟨⟨He.cls_ok (c.t.d.fact 18 (f := .cls "Disk") rfl), He.noat_ok (c.t.d.fact 21 (f := .noat "Disk" "_now") rfl)⟩, List.forall_mem_cons.mpr ⟨⟨He.cls_ok (c.t.d.fact 18 (f := .cls "Disk") rfl), He.noat_ok (c.t.d.fact 22 (f := .noat "Disk" "_waiting") rfl)⟩, List.forall_mem_cons.mpr ⟨⟨He.cls_ok (c.t.d.fact 18 (f := .cls "Disk") rfl), He.noat_ok (c.t.d.fact 23 (f := .noat "Disk" "_fuse") rfl)⟩, List.forall_mem_cons.mpr ⟨⟨He.cls_ok (c.t.d.fact 18 (f := .cls "Disk") rfl), He.noat_ok (c.t.d.fact 24 (f := .noat "Disk" "_steps") rfl)⟩, fun _ h => absurd h List.not_mem_nil⟩⟩⟩⟩⟩
    exact all _ hm
  mv := fun cc mm ff np h => by
    have hm : ((cc, mm), (ff, np)) ∈ mvs := lk_mem h
    have all : ∀ p ∈ mvs, Cls K (He.ga K p.1.1) ∧ Meth K (He.ga K p.1.1) p.1.2 (He.ma K (He.ga K p.1.1) p.1.2) ∧ MtHyp K mg base (qOf K) G p.2.1 p.1.1 p.1.2 p.2.2 := List.forall_mem_cons.mpr ⟨⟨He.cls_ok (c.t.d.fact 18 (f := .cls "Disk") rfl), He.meth_ok (c.t.d.fact 25 (f := .meth "Disk" "steps") rfl), mh9 KX GX c TB⟩, List.forall_mem_cons.mpr ⟨⟨He.cls_ok (c.t.d.fact 18 (f := .cls "Disk") rfl), He.meth_ok (c.t.d.fact 26 (f := .meth "Disk" "set_fuse") rfl), mh10 KX GX c TB⟩, List.forall_mem_cons.mpr ⟨⟨He.cls_ok (c.t.d.fact 18 (f := .cls "Disk") rfl), He.meth_ok (c.t.d.fact 27 (f := .meth "Disk" "_step") rfl), mh11 KX GX c TB⟩, List.forall_mem_cons.mpr ⟨⟨He.cls_ok (c.t.d.fact 18 (f := .cls "Disk") rfl), He.meth_ok (c.t.d.fact 28 (f := .meth "Disk" "names") rfl), mh12 KX GX c TB⟩, List.forall_mem_cons.mpr ⟨⟨He.cls_ok (c.t.d.fact 18 (f := .cls "Disk") rfl), He.meth_ok (c.t.d.fact 29 (f := .meth "Disk" "size") rfl), mh13 KX GX c TB⟩, List.forall_mem_cons.mpr ⟨⟨He.cls_ok (c.t.d.fact 18 (f := .cls "Disk") rfl), He.meth_ok (c.t.d.fact 30 (f := .meth "Disk" "read") rfl), mh14 KX GX c TB⟩, List.forall_mem_cons.mpr ⟨⟨He.cls_ok (c.t.d.fact 18 (f := .cls "Disk") rfl), He.meth_ok (c.t.d.fact 31 (f := .meth "Disk" "_wait") rfl), mh15 KX GX c TB⟩, List.forall_mem_cons.mpr ⟨⟨He.cls_ok (c.t.d.fact 18 (f := .cls "Disk") rfl), He.meth_ok (c.t.d.fact 32 (f := .meth "Disk" "write") rfl), mh16 KX GX c TB⟩, List.forall_mem_cons.mpr ⟨⟨He.cls_ok (c.t.d.fact 18 (f := .cls "Disk") rfl), He.meth_ok (c.t.d.fact 33 (f := .meth "Disk" "cut") rfl), mh17 KX GX c TB⟩, List.forall_mem_cons.mpr ⟨⟨He.cls_ok (c.t.d.fact 18 (f := .cls "Disk") rfl), He.meth_ok (c.t.d.fact 34 (f := .meth "Disk" "remove") rfl), mh18 KX GX c TB⟩, List.forall_mem_cons.mpr ⟨⟨He.cls_ok (c.t.d.fact 18 (f := .cls "Disk") rfl), He.meth_ok (c.t.d.fact 35 (f := .meth "Disk" "sync") rfl), mh19 KX GX c TB⟩, List.forall_mem_cons.mpr ⟨⟨He.cls_ok (c.t.d.fact 18 (f := .cls "Disk") rfl), He.meth_ok (c.t.d.fact 36 (f := .meth "Disk" "lose") rfl), mh20 KX GX c TB⟩, List.forall_mem_cons.mpr ⟨⟨He.cls_ok (c.t.d.fact 18 (f := .cls "Disk") rfl), He.meth_ok (c.t.d.fact 37 (f := .meth "Disk" "waits") rfl), mh21 KX GX c TB⟩, List.forall_mem_cons.mpr ⟨⟨He.cls_ok (c.t.d.fact 18 (f := .cls "Disk") rfl), He.meth_ok (c.t.d.fact 38 (f := .meth "Disk" "copy") rfl), mh22 KX GX c TB⟩, fun _ h => absurd h List.not_mem_nil⟩⟩⟩⟩⟩⟩⟩⟩⟩⟩⟩⟩⟩⟩
    exact all _ hm
  ci := fun cc ff np h => by
    have hm : (cc, (ff, np)) ∈ cis := lk_mem h
    have all : ∀ p ∈ cis, Mk K (He.ga K p.1) (He.ma K (He.ga K p.1) "__init__") ∧ mg p.1 = some (.ref (He.ga K p.1)) ∧ (p.1 == ("__debug__" : Str)) = false ∧ MtHyp K mg base (qOf K) G p.2.1 p.1 "__init__" p.2.2 := List.forall_mem_cons.mpr ⟨⟨He.mkr_ok (c.t.d.fact 19 (f := .mkr "Disk") rfl), He.glo_ok KX GX (c.t.d.fact 17 (f := .glo "Disk") rfl), by decide, mh8 KX GX c TB⟩, fun _ h => absurd h List.not_mem_nil⟩
    exact all _ hm
  tv := fun g x h1 => by
    match g, h1 with
    | 0, h1 =>
      cases h1
      refine ⟨He.ga K "PowerLost", He.glo_ok KX GX (c.t.d.fact 10 (f := .glo "PowerLost") rfl), by decide, fun cc hc => ?_⟩
      match cc, hc with
      | 1, _ => exact He.exm_ok (c.t.d.fact 16 (f := .exm "PowerLost" "PowerLost" true) rfl)
      | 0, hc => cases hc
      | n + 2, hc =>
        have : tfs2.contains (0, n + 2) = false := by simp [tfs2]
        exact absurd (show tfs2.contains (0, n + 2) = true from hc) (by rw [this]; decide)
    | n + 1, h1 => cases h1
theorem noList (c : He.SaysX fas dfs [] tfs exB w h K) : ∀ a o, K.lookup a = some o → o.cls ≠ .type "list" := fun a o e z => by
  have h1 := List.all_eq_true.mp (show K.all (fun p => !(p.2.cls == .type "list")) = true from c.more) (a, o) (He.lookup_mem e)
  rw [z] at h1
  exact absurd h1 (by decide)
end
theorem law_says (hlaw : ∀ ns : List Int, ns.length ≤ 63 → (∀ z ∈ ns, Builtin.Int.intBits z ≤ 1048576) → ∃ G', callF G.toTb (12 + 1) 7 [.ref 0] [.rol (ns.map E.int)] = .ok (.bl true) G')
    (w : World) (mg : Str → Option Value) (fa : Addr) (h : Heap) (Y : hk.says w h) (GX : h.Ns mainGlobals mg) (hmg : mg "law" = some (.ref fa)) : ∃ K : PySem.W.Frag, K.In h ∧ LamX.LawAtS PySem.Challenge.rw_nothinglost_k02_disks_that_lose w K (CX PySem.Challenge.pw_nothinglost_k02_disks_that_lose w) (4 * (12 + 1)) 63 "script" mg fa h := by
  obtain ⟨K, KX, c⟩ := Y
  obtain ⟨fd, F⟩ := c.t.d.def_ 7 (d := dD 18 "law") rfl
  have ea : fa = He.ga K "law" := by
    have z := hmg.symm.trans (He.glo_ok KX GX (c.t.d.fact 7 (f := .glo "law") rfl))
    injection z with z
    injection z
  subst ea
  refine ⟨K, KX, law_at (q := qOf K) (G := G) (params := defArgs (top 18)) (cs := tfs.map (He.cT K)) (fn := f7) (N := N7) (lm := true) (lx := "law") (fun base KB GB TB => hyp (base := base) KX GX c TB) (fun p hp => ?_) (fun p hp => ?_) (fun p hp => ?_) (fun t ht => ?_) (fun s u => ?_) (noList c) ?_ s7 rfl rfl rfl k7 (fun base TB _ => lam7 KX GX c TB F) hlaw⟩
  · obtain ⟨p0, hp0, rfl⟩ := List.mem_map.mp hp
    exact c.empty p0 hp0
  · obtain ⟨p0, hp0, rfl⟩ := List.mem_map.mp hp
    exact c.out p0 hp0
  · obtain ⟨p0, hp0, rfl⟩ := List.mem_map.mp hp
    exact PySem.W.codeHd_of_K KX (c.hd p0 hp0)
  · obtain ⟨p0, hp0, rfl⟩ := List.mem_map.mp ht
    exact ⟨p0, hp0, rfl⟩
  · exact FunD.bindsA (ps := [("script" : Str)]) F (fun _ _ _ _ _ _ us hl => match us, hl with | [_], _ => rfl) s [u] rfl
  · show FunD K _ _ _ b7.py _ _ _ _ _
    rw [e7]
    exact F
end K02
open PySem PySem.W PySem.Calls PyProof.Rows
theorem K02.holds_of (hlaw : ∀ ns : List Int, ns.length ≤ 63 → (∀ z ∈ ns, Builtin.Int.intBits z ≤ 1048576) → ∃ G', Lt.callF K02.G.toTb (12 + 1) 7 [.ref 0] [.rol (ns.map Lt.E.int)] = .ok (.bl true) G') : PySem.Challenge.rw_nothinglost_k02_disks_that_lose.Holds := by
  w_on; o_law
  refine HandSHeadRun.head_any (r := OpenLaw.row PySem.Challenge.rw_nothinglost_k02_disks_that_lose) (q := view (OpenLaw.row PySem.Challenge.rw_nothinglost_k02_disks_that_lose).prog [18]) (H := K02.hk) (ob := K02.ob) (M := 6000) (loose := K02.nms) (d := HandSHeadRun.topDef (OpenLaw.row PySem.Challenge.rw_nothinglost_k02_disks_that_lose).prog 18) (kwd := []) K02.ob_eq
    (by kernel_rfl) (fun s => by kernel_rfl) K02.run (by kernel_rfl) (by kernel_rfl) (by kernel_rfl) (by rfl) (by first | assumption | decide +kernel) (by decide +kernel) ⟨rfl, rfl, rfl, rfl, rfl, by decide +kernel⟩ ?hw ?hc
  case hw => w_witness2
  case hc =>
    refine LamX.walk_ofTsE (l := PySem.Challenge.rw_nothinglost_k02_disks_that_lose) (n := 63) (k := 4 * (12 + 1)) (x := "script") (CX := fun w => L2.CX PySem.Challenge.pw_nothinglost_k02_disks_that_lose w) rfl (by decide) (by kernel_rfl) ⟨rfl, by decide, by decide⟩ ?F (fun w H s e s' ⟨_, _, _, _, _, _, _, _, _, _, _, _, z⟩ => z)
    intro w mg fa h Y G hmg0
    have hmg : mg ("law" : PySem.Str) = some (.ref fa) := by
      have e : (HandSHeadRun.topDef (OpenLaw.row PySem.Challenge.rw_nothinglost_k02_disks_that_lose).prog 18).name = ("law" : PySem.Str) := by kernel_rfl
      rw [← e]
      exact hmg0
    exact K02.law_says hlaw w mg fa h Y G hmg
end
section
set_option Elab.async false
set_option linter.all false
set_option maxRecDepth 100000
set_option maxHeartbeats 1000000
/-! k02: rows of numbers, the tape. -/
namespace K02
open PySem Lt
abbrev cl (k f : Nat) (es : List E) (H : Hq) : Lt.R E := callF G.toTb k f es H
abbrev Pn (k : Nat) : Par := G.par k
theorem cl_succ {k f : Nat} {es : List E} {H : Hq} {fn : Fn} (h : G.T f = some fn) (hl : es.length = fn.np) : cl (k + 1) f es H = endR fn.pure H (fn.body.ev (Pn k) (es.map some ++ List.replicate (fn.ns - fn.np) none) H) := by
  show (match G.T f with | some fn => _ | none => _) = _
  rw [h]
  show (if es.length = fn.np then _ else _) = _
  rw [if_pos hl]
  rfl
def nats (l : List Nat) : List E := l.map fun (a : Nat) => E.int (a : Int)
theorem dats_nats : ∀ l : List Nat, E.dats (nats l) = some (l.map fun (a : Nat) => PyData.int (a : Int))
  | [] => rfl
  | a :: l => by
    show (match (E.int (a : Int)).dat, E.dats (nats l) with | some d, some ds => some (d :: ds) | _, _ => none) = _
    rw [dats_nats l]
    rfl
theorem dat_nats (l : List Nat) : (E.tup (nats l)).dat.isSome = true := by
  unfold E.dat
  rw [dats_nats]
  rfl
theorem deps_nats : ∀ l : List Nat, E.deps (nats l) = 0
  | [] => rfl
  | a :: l => by
    show max 0 (E.deps (nats l)) = 0
    rw [deps_nats l]
    rfl
theorem nats_len (l : List Nat) : (nats l).length = l.length := by simp [nats]
theorem nats_app (l r : List Nat) : nats (l ++ r) = nats l ++ nats r := by simp [nats]
theorem nats_cons (a : Nat) (r : List Nat) : nats (a :: r) = E.int (a : Int) :: nats r := rfl
/-- a pure def's end -/
theorem endR_rt {H J : Hq} {v : E} (h : v.dat.isSome = true) : endR true H (.rt v (H ++ J)) = .ok v H := retP_app h
theorem endR_rt0 {H : Hq} {v : E} (h : v.dat.isSome = true) : endR true H (.rt v H) = .ok v H := retP_same h
theorem le_line {n : Nat} (h : n ≤ 1000000) : n ≤ sizeLine := by
  rw [sizeLine_eq]; omega
theorem mulOk_l {i j : Int} (h : -(2 ^ 64) < i ∧ i < 2 ^ 64) : mulOk i j = true := by
  unfold mulOk
  rw [decide_eq_true h]; rfl
theorem mulOk_r {i j : Int} (h : -(2 ^ 64) < j ∧ j < 2 ^ 64) : mulOk i j = true := by
  unfold mulOk
  rw [decide_eq_true h]; simp
theorem atI_nat {α : Type} {xs : List α} {j : Nat} {x : α} (h : xs[j]? = some x) : L2.atI xs (j : Int) = some x := by
  have hj := (List.getElem?_eq_some_iff.mp h).1
  unfold L2.atI L2.ixN
  rw [if_pos (by omega), if_pos (by omega)]
  simpa using h
theorem nats_get {l : List Nat} {j a : Nat} (h : l[j]? = some a) : (nats l)[j]? = some (E.int (a : Int)) := by
  simp [nats, h]
theorem sub_nats {l : List Nat} {j a : Nat} {H : Hq} (h : l[j]? = some a) : subE H (.tup (nats l)) (.int (j : Int)) = some (.int (a : Int)) := atI_nat (nats_get h)
def ups (j m : Nat) : List E := (List.range' j m).map fun (k : Nat) => E.int (k : Int)
theorem rng_ups (j m : Nat) : rng (j : Int) m = ups j m := by
  unfold rng ups
  rw [List.range_eq_range', List.range'_eq_map_range, List.range'_eq_map_range, List.map_map, List.map_map]
  refine List.map_congr_left fun k _ => ?_
  simp
theorem ups_succ (j m : Nat) : ups j (m + 1) = E.int (j : Int) :: ups (j + 1) m := by
  unfold ups
  rw [List.range'_succ]
  rfl
theorem in62_nat {n : Nat} (h : n ≤ 1000000) : in62 (n : Int) = true := by
  unfold in62
  rw [decide_eq_true_eq]
  omega
theorem par_cl {k f : Nat} {es : List E} {H : Hq} : (Pn k).cl f es H = cl k f es H := rfl
theorem sIx_nat (n d k : Nat) : HT.sIx n d (some (k : Int)) = min k n := HT.sIx_nat n d k
theorem cut_nats {row : List Nat} {a b : Nat} : cutE (some (a : Int)) (some (b : Int)) (.tup (nats row)) = some (.tup (nats ((row.drop a).take (b - a)))) := by
  show some (E.tup (((nats row).drop (HT.sIx (nats row).length 0 (some (a : Int)))).take (HT.sIx (nats row).length (nats row).length (some (b : Int)) - HT.sIx (nats row).length 0 (some (a : Int))))) = _
  rw [sIx_nat, sIx_nat, nats_len]
  congr 2
  unfold nats
  rw [← List.map_drop, ← List.map_take]
  congr 1
  by_cases ha : a ≤ row.length
  · rw [Nat.min_eq_left ha]
    by_cases hb : b ≤ row.length
    · rw [Nat.min_eq_left hb]
    · rw [Nat.min_eq_right (by omega), List.take_of_length_le (by rw [List.length_drop]; omega), List.take_of_length_le (by rw [List.length_drop]; omega)]
  · have h1 : min a row.length = row.length := Nat.min_eq_right (by omega)
    rw [h1, List.drop_length, List.drop_of_length_le (show row.length ≤ a by omega)]
    simp
def hdS : Stms → Stm
  | .cons s _ => s
  | .nil => .pas ⟨0, 0, 0, 0⟩
def tlS : Stms → Stms
  | .cons _ r => r
  | .nil => .nil
theorem ev_hd {P : Par} {s : Stm} {r : Stms} {ρ : Ro} {H : Hq} : (Stms.cons s r).ev P ρ H = (s.ev P ρ H).seq (r.ev P) := rfl
abbrev TD (c : Nat) (a l s z : Int) : Ob := .dct [("cells", .ref c), ("at", .int a), ("left", .int l), ("seed", .int s), ("salt", .int z)]
theorem sub_dct {G : Hq} {t : Nat} {k : Str} {kvs : List (Str × E)} (h : G[t]? = some (.dct kvs)) : subE G (.ref t) (.str k) = kvs.lookup k := by
  show (match G[t]? with | some (.dct kvs) => kvs.lookup k | _ => none) = _
  rw [h]
theorem sub_lst {G : Hq} {t : Nat} {i : Int} {xs : List E} (h : G[t]? = some (.lst xs)) : subE G (.ref t) (.int i) = L2.atI xs i := by
  show (match G[t]? with | some (.lst xs) => L2.atI xs i | some (.rol xs) => L2.atI xs i | _ => none) = _
  rw [h]
theorem len_lst {G : Hq} {t : Nat} {xs : List E} (h : G[t]? = some (.lst xs)) : lenE G (.ref t) = some xs.length := by
  show (match G[t]? with | some (.lst xs) => some xs.length | some (.rol xs) => some xs.length | some (.dct kvs) => some kvs.length | _ => none) = _
  rw [h]
section
variable {H : Hq} {t c : Nat} {a l s z v : Int}
theorem g_T (ht : t < H.length) (D : Ob) : (H.set t D)[t]? = some D := by
  rw [List.getElem?_set_self ht]
theorem s_cells (ht : t < H.length) : subE (H.set t (TD c a l s z)) (.ref t) (.str "cells") = some (.ref c) := by
  rw [sub_dct (g_T ht _)]; rfl
theorem s_at (ht : t < H.length) : subE (H.set t (TD c a l s z)) (.ref t) (.str "at") = some (.int a) := by
  rw [sub_dct (g_T ht _)]; rfl
theorem s_left (ht : t < H.length) : subE (H.set t (TD c a l s z)) (.ref t) (.str "left") = some (.int l) := by
  rw [sub_dct (g_T ht _)]; rfl
theorem s_seed (ht : t < H.length) : subE (H.set t (TD c a l s z)) (.ref t) (.str "seed") = some (.int s) := by
  rw [sub_dct (g_T ht _)]; rfl
theorem s_salt (ht : t < H.length) : subE (H.set t (TD c a l s z)) (.ref t) (.str "salt") = some (.int z) := by
  rw [sub_dct (g_T ht _)]; rfl
theorem g_C {cs : List Int} (hc : H[c]? = some (.lst (cs.map E.int))) (hct : c ≠ t) (D : Ob) : (H.set t D)[c]? = some (.lst (cs.map E.int)) := by
  rw [List.getElem?_set_ne (Ne.symm hct), hc]
theorem s_len {cs : List Int} (hc : H[c]? = some (.lst (cs.map E.int))) (hct : c ≠ t) (D : Ob) : lenE (H.set t D) (.ref c) = some cs.length := by
  rw [len_lst (g_C hc hct D)]; simp
theorem s_cell {cs : List Int} {i : Nat} {x : Int} (hc : H[c]? = some (.lst (cs.map E.int))) (hct : c ≠ t) (hi : cs[i]? = some x) (D : Ob) : subE (H.set t D) (.ref c) (.int (i : Int)) = some (.int x) := by
  rw [sub_lst (g_C hc hct D)]
  exact atI_nat (by simp [hi])
theorem set_kv {P : Par} {ρ : Ro} {o k e : Sx E} {G G1 : Hq} {w : E} {key : Str} {kvs : List (Str × E)} (he : e ρ G = .ok w G1) (ho : o ρ G1 = .ok (.ref t) G1) (hk : k ρ G1 = .ok (.str key) G1) (hd : G1[t]? = some (.dct kvs)) (hl : kvs.length ≤ 100) :
    qSetD o k e ρ G = .nx ρ (G1.set t (.dct (putS kvs key w))) := by
  unfold qSetD
  rw [he, R.st_ok, ho, R.st_ok, hk, R.st_ok]
  simp only [hd]
  rw [if_pos (by rw [sizeLine_eq]; omega)]
theorem p_at : putS ([(("cells" : Str), E.ref c), (("at" : Str), .int a), (("left" : Str), .int l), (("seed" : Str), .int s), (("salt" : Str), .int z)] : List (Str × E)) ("at" : Str) (.int v) = ([(("cells" : Str), E.ref c), (("at" : Str), .int v), (("left" : Str), .int l), (("seed" : Str), .int s), (("salt" : Str), .int z)] : List (Str × E)) := rfl
theorem p_left : putS ([(("cells" : Str), E.ref c), (("at" : Str), .int a), (("left" : Str), .int l), (("seed" : Str), .int s), (("salt" : Str), .int z)] : List (Str × E)) ("left" : Str) (.int v) = ([(("cells" : Str), E.ref c), (("at" : Str), .int a), (("left" : Str), .int v), (("seed" : Str), .int s), (("salt" : Str), .int z)] : List (Str × E)) := rfl
theorem p_salt : putS ([(("cells" : Str), E.ref c), (("at" : Str), .int a), (("left" : Str), .int l), (("seed" : Str), .int s), (("salt" : Str), .int z)] : List (Str × E)) ("salt" : Str) (.int v) = ([(("cells" : Str), E.ref c), (("at" : Str), .int a), (("left" : Str), .int l), (("seed" : Str), .int s), (("salt" : Str), .int v)] : List (Str × E)) := rfl
end
theorem sz5 (a b c d e : Str × E) : ([a, b, c, d, e].length < sizeLine) = True := by
  rw [sizeLine_eq]; simp
/-- a cell is taken up -/
theorem take_up {k t c i : Nat} {H : Hq} {cs : List Int} {m x s z : Int} (ht : t < H.length) (hc : H[c]? = some (.lst (cs.map E.int))) (hct : c ≠ t) (hi : cs[i]? = some x) :
    (hdS b3).ev (Pn k) [some (.ref t), some (.int m), none, none] (H.set t (TD c (i : Int) 0 s z)) = .nx [some (.ref t), some (.int m), none, none] (H.set t (TD c ((i : Int) + 1) x s z)) := by
  have h1 : decide ((i : Int) < (cs.length : Int)) = true := decide_eq_true (by have := (List.getElem?_eq_some_iff.mp hi).1; omega)
  have h2 : cmpop .eq (.int 0) (.int 0) = some true := by rw [c_eqI]; rfl
  simp -implicitDefEqProofs only [Stms.ev, Stm.ev, Ex.ev, Ex.evT, Exs.ev, Exs.evAnd, Exs.evOr, Exs.evTAnd, Exs.evTOr, Ox.ev, Ox.evT, Lx.ev, It.ev, v_c, v_bin, v_cmp, v_bl, v_isN, v_ntN, v_not, v_tru, v_asB, v_and, v_or, v_if, v_tup, v_nil, v_cons, v_sub, v_onone, v_osome, v_slice, v_call, v_glb, v_ofE, v_disp, v_cat, v_bi1, v_biL, v_isi, v_inS, v_sidx, v_join, v_subL, v_new, v_dct, v_lenSet, v_attr, v_meth, v_nox, v_dct0, v_dcp, v_dget, v_dpop, v_chain, v_tupE, v_min2, v_listT, v_sortS, v_neL, strE, refE, q_v_setI, q_v_setA, q_v_augA, q_v_parA, v_yes, v_itL, v_itA, v_itR1, v_itR2, v_lc, q_v_asg, q_v_par, q_v_setD, q_v_expr, q_v_app, q_v_if, q_v_for, q_v_ret, o_add, o_sub, c_lt, c_le, c_gt, c_ge, a_add, R.bind_ok, R.bind_ex, R.bind_bad, R.st_ok, R.st_ex, R.st_bad, RS.seq_nx, RS.seq_rt, RS.seq_ex, RS.seq_bk, RS.seq_ct, RS.seq_bad, optR_some, optR_none, Tg.set, setAll, asB, Lt.truthy, isNon, biLE, getL_tmp, getM_tmp, Option.isSome_some, reduceIte, if_true, if_false, Bool.false_eq_true, Option.map_some, w0, w1, w2, w3, w4, w5, w6, w7, w8, w9, w10, w11, w12, w13, w14, w15, w16, w17, w18, w19, w20, w21, w22, w23, w24, x0, x1, x2, x3, x4, x5, x6, x7, x8, x9, x10, x11, x12, x13, x14, x15, x16, x17, x18, x19, x20, x21, x22, x23, x24, z0, z1, z2, z3, z4, z5, z6, z7, z8, z9, z10, z11, z12, z13, z14, z15, z16, z17, z18, z19, z20, z21, z22, z23, z24, y0, y1, y2, y3, y4, y5, y6, y7, y8, y9, y10, y11, y12, y13, y14, y15, y16, y17, y18, y19, y20, y21, y22, y23, y24, b3, hdS, h1, h2, s_left ht, s_at ht, s_cells ht, s_len hc hct, s_cell hc hct hi, bi1E, g_T ht, sz5, p_left, p_at, List.set_set]
theorem take_no {k t c : Nat} {H : Hq} {cs : List Int} {m a l s z : Int} (ht : t < H.length) (hc : H[c]? = some (.lst (cs.map E.int))) (hct : c ≠ t) (h : l ≠ 0 ∨ (cs.length : Int) ≤ a) :
    (hdS b3).ev (Pn k) [some (.ref t), some (.int m), none, none] (H.set t (TD c a l s z)) = .nx [some (.ref t), some (.int m), none, none] (H.set t (TD c a l s z)) := by
  by_cases h0 : l = 0
  · have h1 : decide (a < (cs.length : Int)) = false := decide_eq_false (by omega)
    have h2 : decide (l = 0) = true := decide_eq_true h0
    simp -implicitDefEqProofs only [Stms.ev, Stm.ev, Ex.ev, Ex.evT, Exs.ev, Exs.evAnd, Exs.evOr, Exs.evTAnd, Exs.evTOr, Ox.ev, Ox.evT, Lx.ev, It.ev, v_c, v_bin, v_cmp, v_bl, v_isN, v_ntN, v_not, v_tru, v_asB, v_and, v_or, v_if, v_tup, v_nil, v_cons, v_sub, v_onone, v_osome, v_slice, v_call, v_glb, v_ofE, v_disp, v_cat, v_bi1, v_biL, v_isi, v_inS, v_sidx, v_join, v_subL, v_new, v_dct, v_lenSet, v_attr, v_meth, v_nox, v_dct0, v_dcp, v_dget, v_dpop, v_chain, v_tupE, v_min2, v_listT, v_sortS, v_neL, strE, refE, q_v_setI, q_v_setA, q_v_augA, q_v_parA, v_yes, v_itL, v_itA, v_itR1, v_itR2, v_lc, q_v_asg, q_v_par, q_v_setD, q_v_expr, q_v_app, q_v_if, q_v_for, q_v_ret, o_add, o_sub, c_lt, c_le, c_gt, c_ge, a_add, R.bind_ok, R.bind_ex, R.bind_bad, R.st_ok, R.st_ex, R.st_bad, RS.seq_nx, RS.seq_rt, RS.seq_ex, RS.seq_bk, RS.seq_ct, RS.seq_bad, optR_some, optR_none, Tg.set, setAll, asB, Lt.truthy, isNon, biLE, getL_tmp, getM_tmp, Option.isSome_some, reduceIte, if_true, if_false, Bool.false_eq_true, Option.map_some, w0, w1, w2, w3, w4, w5, w6, w7, w8, w9, w10, w11, w12, w13, w14, w15, w16, w17, w18, w19, w20, w21, w22, w23, w24, x0, x1, x2, x3, x4, x5, x6, x7, x8, x9, x10, x11, x12, x13, x14, x15, x16, x17, x18, x19, x20, x21, x22, x23, x24, z0, z1, z2, z3, z4, z5, z6, z7, z8, z9, z10, z11, z12, z13, z14, z15, z16, z17, z18, z19, z20, z21, z22, z23, z24, y0, y1, y2, y3, y4, y5, y6, y7, y8, y9, y10, y11, y12, y13, y14, y15, y16, y17, y18, y19, y20, y21, y22, y23, y24, b3, hdS, c_eqI, h1, h2, s_left ht, s_at ht, s_cells ht, s_len hc hct, bi1E]
  · have h2 : decide (l = 0) = false := decide_eq_false h0
    simp -implicitDefEqProofs only [Stms.ev, Stm.ev, Ex.ev, Ex.evT, Exs.ev, Exs.evAnd, Exs.evOr, Exs.evTAnd, Exs.evTOr, Ox.ev, Ox.evT, Lx.ev, It.ev, v_c, v_bin, v_cmp, v_bl, v_isN, v_ntN, v_not, v_tru, v_asB, v_and, v_or, v_if, v_tup, v_nil, v_cons, v_sub, v_onone, v_osome, v_slice, v_call, v_glb, v_ofE, v_disp, v_cat, v_bi1, v_biL, v_isi, v_inS, v_sidx, v_join, v_subL, v_new, v_dct, v_lenSet, v_attr, v_meth, v_nox, v_dct0, v_dcp, v_dget, v_dpop, v_chain, v_tupE, v_min2, v_listT, v_sortS, v_neL, strE, refE, q_v_setI, q_v_setA, q_v_augA, q_v_parA, v_yes, v_itL, v_itA, v_itR1, v_itR2, v_lc, q_v_asg, q_v_par, q_v_setD, q_v_expr, q_v_app, q_v_if, q_v_for, q_v_ret, o_add, o_sub, c_lt, c_le, c_gt, c_ge, a_add, R.bind_ok, R.bind_ex, R.bind_bad, R.st_ok, R.st_ex, R.st_bad, RS.seq_nx, RS.seq_rt, RS.seq_ex, RS.seq_bk, RS.seq_ct, RS.seq_bad, optR_some, optR_none, Tg.set, setAll, asB, Lt.truthy, isNon, biLE, getL_tmp, getM_tmp, Option.isSome_some, reduceIte, if_true, if_false, Bool.false_eq_true, Option.map_some, w0, w1, w2, w3, w4, w5, w6, w7, w8, w9, w10, w11, w12, w13, w14, w15, w16, w17, w18, w19, w20, w21, w22, w23, w24, x0, x1, x2, x3, x4, x5, x6, x7, x8, x9, x10, x11, x12, x13, x14, x15, x16, x17, x18, x19, x20, x21, x22, x23, x24, z0, z1, z2, z3, z4, z5, z6, z7, z8, z9, z10, z11, z12, z13, z14, z15, z16, z17, z18, z19, z20, z21, z22, z23, z24, y0, y1, y2, y3, y4, y5, y6, y7, y8, y9, y10, y11, y12, y13, y14, y15, y16, y17, y18, y19, y20, y21, y22, y23, y24, b3, hdS, c_eqI, h2, s_left ht, s_at ht, s_cells ht, s_len hc hct, bi1E]
theorem take_dig {k t c : Nat} {H : Hq} {m a l s z : Int} (ht : t < H.length) (hl : 0 < l) (hm : 0 < m) (hm2 : m < 1073741824) :
    (tlS b3).ev (Pn k) [some (.ref t), some (.int m), none, none] (H.set t (TD c a l s z)) = .rt (.int (l % m)) (H.set t (TD c a (l / m) s z)) := by
  have h1 : decide (l > 0) = true := decide_eq_true hl
  simp -implicitDefEqProofs only [Stms.ev, Stm.ev, Ex.ev, Ex.evT, Exs.ev, Exs.evAnd, Exs.evOr, Exs.evTAnd, Exs.evTOr, Ox.ev, Ox.evT, Lx.ev, It.ev, v_c, v_bin, v_cmp, v_bl, v_isN, v_ntN, v_not, v_tru, v_asB, v_and, v_or, v_if, v_tup, v_nil, v_cons, v_sub, v_onone, v_osome, v_slice, v_call, v_glb, v_ofE, v_disp, v_cat, v_bi1, v_biL, v_isi, v_inS, v_sidx, v_join, v_subL, v_new, v_dct, v_lenSet, v_attr, v_meth, v_nox, v_dct0, v_dcp, v_dget, v_dpop, v_chain, v_tupE, v_min2, v_listT, v_sortS, v_neL, strE, refE, q_v_setI, q_v_setA, q_v_augA, q_v_parA, v_yes, v_itL, v_itA, v_itR1, v_itR2, v_lc, q_v_asg, q_v_par, q_v_setD, q_v_expr, q_v_app, q_v_if, q_v_for, q_v_ret, o_add, o_sub, c_lt, c_le, c_gt, c_ge, a_add, R.bind_ok, R.bind_ex, R.bind_bad, R.st_ok, R.st_ex, R.st_bad, RS.seq_nx, RS.seq_rt, RS.seq_ex, RS.seq_bk, RS.seq_ct, RS.seq_bad, optR_some, optR_none, Tg.set, setAll, asB, Lt.truthy, isNon, biLE, getL_tmp, getM_tmp, Option.isSome_some, reduceIte, if_true, if_false, Bool.false_eq_true, Option.map_some, w0, w1, w2, w3, w4, w5, w6, w7, w8, w9, w10, w11, w12, w13, w14, w15, w16, w17, w18, w19, w20, w21, w22, w23, w24, x0, x1, x2, x3, x4, x5, x6, x7, x8, x9, x10, x11, x12, x13, x14, x15, x16, x17, x18, x19, x20, x21, x22, x23, x24, z0, z1, z2, z3, z4, z5, z6, z7, z8, z9, z10, z11, z12, z13, z14, z15, z16, z17, z18, z19, z20, z21, z22, z23, z24, y0, y1, y2, y3, y4, y5, y6, y7, y8, y9, y10, y11, y12, y13, y14, y15, y16, y17, y18, y19, y20, y21, y22, y23, y24, b3, tlS, h1, s_left ht, bi1E, o_mod hm, o_fdiv hm hm2, g_T ht, sz5, p_left, List.set_set]
theorem take_mix {k t c : Nat} {H : Hq} {m a l s z : Int} (ht : t < H.length) (hl : l ≤ 0) (hm : 0 < m) :
    ∃ d, (tlS b3).ev (Pn k) [some (.ref t), some (.int m), none, none] (H.set t (TD c a l s z)) = .rt (.int (d % m)) (H.set t (TD c a l s (z + 1))) := by
  have h1 : decide (l > 0) = false := decide_eq_false (by omega)
  have q1 : (0 : Int) < 2147483647 := by decide
  have q2 : (0 : Int) < 2147483399 := by decide
  have m1 : ∀ i : Int, mulOk i 48271 = true := fun i => mulOk_r (by decide)
  have m2 : ∀ i : Int, mulOk i 69621 = true := fun i => mulOk_r (by decide)
  have m3 : ∀ i : Int, mulOk i 40692 = true := fun i => mulOk_r (by decide)
  have m4 : ∀ i j : Int, mulOk i (j % 2147483647) = true := fun i j => mulOk_r ⟨by have := Int.emod_nonneg j (b := 2147483647) (by decide); omega, by have := Int.emod_lt_of_pos j (b := 2147483647) (by decide); omega⟩
  refine ⟨((s * 48271 + (z + 1) * 69621) % 2147483647 * ((s * 48271 + (z + 1) * 69621) % 2147483647) + (z + 1) * 40692 + 12345) % 2147483399, ?_⟩
  simp -implicitDefEqProofs only [Stms.ev, Stm.ev, Ex.ev, Ex.evT, Exs.ev, Exs.evAnd, Exs.evOr, Exs.evTAnd, Exs.evTOr, Ox.ev, Ox.evT, Lx.ev, It.ev, v_c, v_bin, v_cmp, v_bl, v_isN, v_ntN, v_not, v_tru, v_asB, v_and, v_or, v_if, v_tup, v_nil, v_cons, v_sub, v_onone, v_osome, v_slice, v_call, v_glb, v_ofE, v_disp, v_cat, v_bi1, v_biL, v_isi, v_inS, v_sidx, v_join, v_subL, v_new, v_dct, v_lenSet, v_attr, v_meth, v_nox, v_dct0, v_dcp, v_dget, v_dpop, v_chain, v_tupE, v_min2, v_listT, v_sortS, v_neL, strE, refE, q_v_setI, q_v_setA, q_v_augA, q_v_parA, v_yes, v_itL, v_itA, v_itR1, v_itR2, v_lc, q_v_asg, q_v_par, q_v_setD, q_v_expr, q_v_app, q_v_if, q_v_for, q_v_ret, o_add, o_sub, c_lt, c_le, c_gt, c_ge, a_add, R.bind_ok, R.bind_ex, R.bind_bad, R.st_ok, R.st_ex, R.st_bad, RS.seq_nx, RS.seq_rt, RS.seq_ex, RS.seq_bk, RS.seq_ct, RS.seq_bad, optR_some, optR_none, Tg.set, setAll, asB, Lt.truthy, isNon, biLE, getL_tmp, getM_tmp, Option.isSome_some, reduceIte, if_true, if_false, Bool.false_eq_true, Option.map_some, w0, w1, w2, w3, w4, w5, w6, w7, w8, w9, w10, w11, w12, w13, w14, w15, w16, w17, w18, w19, w20, w21, w22, w23, w24, x0, x1, x2, x3, x4, x5, x6, x7, x8, x9, x10, x11, x12, x13, x14, x15, x16, x17, x18, x19, x20, x21, x22, x23, x24, z0, z1, z2, z3, z4, z5, z6, z7, z8, z9, z10, z11, z12, z13, z14, z15, z16, z17, z18, z19, z20, z21, z22, z23, z24, y0, y1, y2, y3, y4, y5, y6, y7, y8, y9, y10, y11, y12, y13, y14, y15, y16, y17, y18, y19, y20, y21, y22, y23, y24, b3, tlS, h1, s_left ht, s_salt ht, s_seed ht, bi1E, o_mod hm, o_mod q1, o_mod q2, o_mul (m1 _), o_mul (m2 _), o_mul (m3 _), o_mul (m4 _ _), g_T ht, sz5, p_salt, List.set_set]
def IsT (t c : Nat) (H : Hq) : Prop := ∃ (cs : List Int) (i : Nat) (l s z : Int), c ≠ t ∧ H[c]? = some (.lst (cs.map E.int)) ∧ (∀ x ∈ cs, 0 ≤ x) ∧ 0 ≤ l ∧ H[t]? = some (TD c (i : Int) l s z)
theorem set_self {H : Hq} {t : Nat} {D : Ob} (h : H[t]? = some D) : H.set t D = H := by
  obtain ⟨h1, h2⟩ := List.getElem?_eq_some_iff.mp h
  rw [← h2]
  exact List.set_getElem_self h1
theorem IsT_self {H : Hq} {t c : Nat} (h : IsT t c H) : ∃ v, H.set t v = H := by
  obtain ⟨cs, i, l, s, z, _, _, _, _, h⟩ := h
  exact ⟨_, set_self h⟩
theorem IsT_new {H : Hq} {t c i : Nat} {cs : List Int} {l s z : Int} (ht : t < H.length) (hct : c ≠ t) (hc : H[c]? = some (.lst (cs.map E.int))) (hp : ∀ x ∈ cs, 0 ≤ x) (hl : 0 ≤ l) : IsT t c (H.set t (TD c (i : Int) l s z)) :=
  ⟨cs, i, l, s, z, hct, g_C hc hct _, hp, hl, g_T ht _⟩
theorem law_take_ok {k t c m : Nat} {H : Hq} (h : IsT t c H) (hm : 0 < m) (hm2 : m < 1073741824) : ∃ d v, cl (k + 1) 3 [.ref t, .int (m : Int)] H = .ok (.int (d : Nat)) (H.set t v) ∧ IsT t c (H.set t v) ∧ d < m := by
  obtain ⟨cs, i, l, s, z, hct, hc, hp, hl, h⟩ := h
  have ht : t < H.length := (List.getElem?_eq_some_iff.mp h).1
  have hH := set_self h
  have hm' : (0 : Int) < (m : Int) := by omega
  have hm2' : (m : Int) < 1073741824 := by omega
  rw [cl_succ (fn := f3) rfl rfl]
  have two : ∀ (j : Nat) (x : Int), 0 ≤ x → ((hdS b3).ev (Pn k) [some (.ref t), some (.int (m : Int)), none, none] H = .nx [some (.ref t), some (.int (m : Int)), none, none] (H.set t (TD c (j : Int) x s z))) →
      ∃ d v, endR false H (b3.ev (Pn k) [some (.ref t), some (.int (m : Int)), none, none] H) = .ok (.int (d : Nat)) (H.set t v) ∧ IsT t c (H.set t v) ∧ d < m := by
    intro j x hx h1
    have e0 : b3.ev (Pn k) [some (.ref t), some (.int (m : Int)), none, none] H = ((hdS b3).ev (Pn k) [some (.ref t), some (.int (m : Int)), none, none] H).seq ((tlS b3).ev (Pn k)) := rfl
    rw [e0, h1, RS.seq_nx]
    by_cases h0 : 0 < x
    · rw [take_dig ht h0 hm' hm2']
      have hd1 := Int.emod_nonneg x (b := (m : Int)) (by omega)
      have hd2 := Int.emod_lt_of_pos x hm'
      refine ⟨(x % (m : Int)).toNat, TD c (j : Int) (x / (m : Int)) s z, ?_, IsT_new ht hct hc hp (Int.ediv_nonneg hx (by omega)), by omega⟩
      rw [Int.toNat_of_nonneg hd1]
      rfl
    · obtain ⟨d, e1⟩ := take_mix (k := k) (c := c) (a := (j : Int)) (s := s) (z := z) ht (show x ≤ 0 by omega) hm'
      rw [e1]
      have hd1 := Int.emod_nonneg d (b := (m : Int)) (by omega)
      have hd2 := Int.emod_lt_of_pos d hm'
      refine ⟨(d % (m : Int)).toNat, TD c (j : Int) x s (z + 1), ?_, IsT_new ht hct hc hp hx, by omega⟩
      rw [Int.toNat_of_nonneg hd1]
      rfl
  show ∃ d v, endR false H (b3.ev (Pn k) [some (.ref t), some (.int (m : Int)), none, none] H) = .ok (.int (d : Nat)) (H.set t v) ∧ IsT t c (H.set t v) ∧ d < m
  by_cases hu : l = 0 ∧ i < cs.length
  · obtain ⟨rfl, hi⟩ := hu
    obtain ⟨x, hx⟩ : ∃ x, cs[i]? = some x := ⟨_, List.getElem?_eq_getElem hi⟩
    have h1 := take_up (k := k) (m := (m : Int)) (s := s) (z := z) ht hc hct hx
    rw [hH] at h1
    refine two (i + 1) x (hp x (List.mem_of_getElem? hx)) ?_
    rw [h1]
    rfl
  · have h1 := take_no (k := k) (m := (m : Int)) (a := (i : Int)) (l := l) (s := s) (z := z) ht hc hct (by omega)
    rw [hH] at h1
    refine two i l hl ?_
    rw [h1, hH]
/-- a comprehension that draws -/
theorem lc_tape {α : Type} {t c0 : Nat} {g : α → E} {Q : α → Prop} {all : List E} {e : Sx E} {n : Nm} {ρ : Ro} (he : ∀ (y : E) (H : Hq), IsT t c0 H → ∃ x v, e (ρ.set n.i (some y)) H = .ok (g x) (H.set t v) ∧ IsT t c0 (H.set t v) ∧ Q x) :
    ∀ (l acc : List E) (H : Hq), IsT t c0 H → acc.length + l.length ≤ 16777216 → ∃ (xs : List α) (v : Ob), lcS none all (.name n) sYes e ρ l acc H = .ok (acc ++ xs.map g) (H.set t v) ∧ IsT t c0 (H.set t v) ∧ xs.length = l.length ∧ ∀ x ∈ xs, Q x
  | [], acc, H, hT, _ => by
    obtain ⟨v, hv⟩ := IsT_self hT
    refine ⟨[], v, ?_, by rw [hv]; exact hT, rfl, fun x h => by cases h⟩
    rw [lc_end rfl, hv]
    simp
  | y :: l, acc, H, hT, hl => by
    rw [List.length_cons] at hl
    obtain ⟨x, v, h1, h2, h3⟩ := he y H hT
    obtain ⟨xs, w, g1, g2, g3, g4⟩ := lc_tape he l (acc ++ [g x]) (H.set t v) h2 (by simp; omega)
    refine ⟨x :: xs, w, ?_, by rw [List.set_set] at g2; exact g2, by simp [g3], ?_⟩
    · rw [lc_turn (ρ1 := ρ.set n.i (some y)) rfl rfl rfl h1 (by omega), g1, List.set_set]
      simp
    · intro a ha
      rcases List.mem_cons.mp ha with rfl | ha
      · exact h3
      · exact g4 a ha
/-! ### the tape -/
theorem seed_loop {k c : Nat} {H : Hq} {sc : E} {all : List E} (hc : H[c]? = some (.lst all)) : ∀ (l : List Int) (s : Int) (v : Option E), ∃ (v2 : Option E) (s2 : Int),
    forS (some c) all (.name ⟨1, "cell", ⟨121, 8, 121, 12⟩⟩) (b2_0.ev (Pn k)) (l.map E.int) [some sc, v, some (.ref c), some (.int s), none] H = .nx [some sc, v2, some (.ref c), some (.int s2), none] H
  | [], s, v => ⟨v, s, by
    rw [List.map_nil, for_end]
    show (match LH.get H (.pl c) with | some ys => E.eqbs ys all | none => false) = true
    have : LH.get H (.pl c) = some all := by
      show (match H[c]? with | some (.lst xs) => some xs | some (.rol xs) => some xs | _ => none) = _
      rw [hc]
    rw [this]
    exact E.eqbs_refl all⟩
  | x :: l, s, v => by
    have hst : staysB (some c) all H = true := by
      show (match LH.get H (.pl c) with | some ys => E.eqbs ys all | none => false) = true
      have : LH.get H (.pl c) = some all := by
        show (match H[c]? with | some (.lst xs) => some xs | some (.rol xs) => some xs | _ => none) = _
        rw [hc]
      rw [this]
      exact E.eqbs_refl all
    have m1 : mulOk s 31 = true := mulOk_r (by decide)
    have q1 : (0 : Int) < 2147483647 := by decide
    have e : b2_0.ev (Pn k) [some sc, some (.int x), some (.ref c), some (.int s), none] H = .nx [some sc, some (.int x), some (.ref c), some (.int ((s * 31 + x) % 2147483647)), none] H := by
      simp -implicitDefEqProofs only [Stms.ev, Stm.ev, Ex.ev, Ex.evT, Exs.ev, Exs.evAnd, Exs.evOr, Exs.evTAnd, Exs.evTOr, Ox.ev, Ox.evT, Lx.ev, It.ev, v_c, v_bin, v_cmp, v_bl, v_isN, v_ntN, v_not, v_tru, v_asB, v_and, v_or, v_if, v_tup, v_nil, v_cons, v_sub, v_onone, v_osome, v_slice, v_call, v_glb, v_ofE, v_disp, v_cat, v_bi1, v_biL, v_isi, v_inS, v_sidx, v_join, v_subL, v_new, v_dct, v_lenSet, v_attr, v_meth, v_nox, v_dct0, v_dcp, v_dget, v_dpop, v_chain, v_tupE, v_min2, v_listT, v_sortS, v_neL, strE, refE, q_v_setI, q_v_setA, q_v_augA, q_v_parA, v_yes, v_itL, v_itA, v_itR1, v_itR2, v_lc, q_v_asg, q_v_par, q_v_setD, q_v_expr, q_v_app, q_v_if, q_v_for, q_v_ret, o_add, o_sub, c_lt, c_le, c_gt, c_ge, a_add, R.bind_ok, R.bind_ex, R.bind_bad, R.st_ok, R.st_ex, R.st_bad, RS.seq_nx, RS.seq_rt, RS.seq_ex, RS.seq_bk, RS.seq_ct, RS.seq_bad, optR_some, optR_none, Tg.set, setAll, asB, Lt.truthy, isNon, biLE, getL_tmp, getM_tmp, Option.isSome_some, reduceIte, if_true, if_false, Bool.false_eq_true, Option.map_some, w0, w1, w2, w3, w4, w5, w6, w7, w8, w9, w10, w11, w12, w13, w14, w15, w16, w17, w18, w19, w20, w21, w22, w23, w24, x0, x1, x2, x3, x4, x5, x6, x7, x8, x9, x10, x11, x12, x13, x14, x15, x16, x17, x18, x19, x20, x21, x22, x23, x24, z0, z1, z2, z3, z4, z5, z6, z7, z8, z9, z10, z11, z12, z13, z14, z15, z16, z17, z18, z19, z20, z21, z22, z23, z24, y0, y1, y2, y3, y4, y5, y6, y7, y8, y9, y10, y11, y12, y13, y14, y15, y16, y17, y18, y19, y20, y21, y22, y23, y24, b2_0, bi1E, o_mul m1, o_mod q1]
    obtain ⟨v2, s2, h⟩ := seed_loop hc l ((s * 31 + x) % 2147483647) (some (.int x))
    refine ⟨v2, s2, ?_⟩
    rw [List.map_cons, for_nx hst rfl e, h]
def absI (z : Int) : Int := if z < 0 then -z else z
theorem lc_mapS {α : Type} {H : Hq} {st : Option Nat} {all : List E} {g f : α → E} {c : Sx Bool} {e : Sx E} {n : Nm} {ρ : Ro} (hs : staysB st all H = true) (hc : ∀ ρ, c ρ H = .ok true H) : ∀ (l : List α) (acc : List E), (∀ a ∈ l, e (ρ.set n.i (some (g a))) H = .ok (f a) H) → acc.length + l.length ≤ 16777216 →
    lcS st all (.name n) c e ρ (l.map g) acc H = .ok (acc ++ l.map f) H
  | [], acc, _, _ => by rw [List.map_nil, lc_end hs]; simp
  | a :: l, acc, he, hl => by
    rw [List.length_cons] at hl
    rw [List.map_cons, lc_turn (ρ1 := ρ.set n.i (some (g a))) hs rfl (hc _) (he a List.mem_cons_self) (by omega), lc_mapS hs hc l _ (fun b hb => he b (List.mem_cons_of_mem _ hb)) (by simp; omega)]
    simp
theorem law_tape_ok {k : Nat} {ns : List Int} (hn : ns.length ≤ 63) : ∃ H2, cl (k + 1) 2 [.ref 0] [.rol (ns.map E.int)] = .ok (.ref 2) H2 ∧ IsT 2 1 H2 ∧ H2.length = 3 := by
  rw [cl_succ (fn := f2) rfl rfl]
  show ∃ H2, endR false [.rol (ns.map E.int)] (b2.ev (Pn k) [some (.ref 0), none, none, none, none] [.rol (ns.map E.int)]) = .ok (.ref 2) H2 ∧ IsT 2 1 H2 ∧ H2.length = 3
  have hst : staysB (some 0) (ns.map E.int) [.rol (ns.map E.int)] = true := E.eqbs_refl _
  have e1 : lcS (some 0) (ns.map E.int) (.name ⟨1, "cell", ⟨119, 32, 119, 36⟩⟩) sYes (b2_1.ev (Pn k)) [some (.ref 0), none, none, none, none] (ns.map E.int) [] [.rol (ns.map E.int)] = .ok (ns.map fun z => E.int (absI z)) [.rol (ns.map E.int)] := by
    have h := lc_mapS (g := E.int) (f := fun z => E.int (absI z)) (c := sYes) (e := b2_1.ev (Pn k)) (n := ⟨1, "cell", ⟨119, 32, 119, 36⟩⟩) (ρ := [some (.ref 0), none, none, none, none]) hst (fun _ => rfl) ns [] (fun a _ => by
      simp -implicitDefEqProofs only [Stms.ev, Stm.ev, Ex.ev, Ex.evT, Exs.ev, Exs.evAnd, Exs.evOr, Exs.evTAnd, Exs.evTOr, Ox.ev, Ox.evT, Lx.ev, It.ev, v_c, v_bin, v_cmp, v_bl, v_isN, v_ntN, v_not, v_tru, v_asB, v_and, v_or, v_if, v_tup, v_nil, v_cons, v_sub, v_onone, v_osome, v_slice, v_call, v_glb, v_ofE, v_disp, v_cat, v_bi1, v_biL, v_isi, v_inS, v_sidx, v_join, v_subL, v_new, v_dct, v_lenSet, v_attr, v_meth, v_nox, v_dct0, v_dcp, v_dget, v_dpop, v_chain, v_tupE, v_min2, v_listT, v_sortS, v_neL, strE, refE, q_v_setI, q_v_setA, q_v_augA, q_v_parA, v_yes, v_itL, v_itA, v_itR1, v_itR2, v_lc, q_v_asg, q_v_par, q_v_setD, q_v_expr, q_v_app, q_v_if, q_v_for, q_v_ret, o_add, o_sub, c_lt, c_le, c_gt, c_ge, a_add, R.bind_ok, R.bind_ex, R.bind_bad, R.st_ok, R.st_ex, R.st_bad, RS.seq_nx, RS.seq_rt, RS.seq_ex, RS.seq_bk, RS.seq_ct, RS.seq_bad, optR_some, optR_none, Tg.set, setAll, asB, Lt.truthy, isNon, biLE, getL_tmp, getM_tmp, Option.isSome_some, reduceIte, if_true, if_false, Bool.false_eq_true, Option.map_some, w0, w1, w2, w3, w4, w5, w6, w7, w8, w9, w10, w11, w12, w13, w14, w15, w16, w17, w18, w19, w20, w21, w22, w23, w24, x0, x1, x2, x3, x4, x5, x6, x7, x8, x9, x10, x11, x12, x13, x14, x15, x16, x17, x18, x19, x20, x21, x22, x23, x24, z0, z1, z2, z3, z4, z5, z6, z7, z8, z9, z10, z11, z12, z13, z14, z15, z16, z17, z18, z19, z20, z21, z22, z23, z24, y0, y1, y2, y3, y4, y5, y6, y7, y8, y9, y10, y11, y12, y13, y14, y15, y16, y17, y18, y19, y20, y21, y22, y23, y24, b2_1, bi1E, absI]) (by simp; omega)
    rw [List.nil_append] at h
    exact h
  have hi : itE [.rol (ns.map E.int)] (.ref 0) = some (ns.map E.int, some 0) := rfl
  have hi2 : itE [.rol (ns.map E.int), .lst (ns.map fun z => E.int (absI z))] (.ref 1) = some (ns.map (fun z => E.int (absI z)), some 1) := rfl
  obtain ⟨v2, s2, hlp⟩ := seed_loop (k := k) (c := 1) (H := [.rol (ns.map E.int), .lst (ns.map fun z => E.int (absI z))]) (sc := .ref 0) (all := ns.map fun z => E.int (absI z)) rfl (ns.map absI) 7 none
  have hmm : (ns.map absI).map E.int = ns.map fun z => E.int (absI z) := by simp
  rw [hmm] at hlp
  have e : b2.ev (Pn k) [some (.ref 0), none, none, none, none] [.rol (ns.map E.int)] = .rt (.ref 2) ([.rol (ns.map E.int), .lst (ns.map fun z => E.int (absI z))] ++ [TD 1 0 0 s2 0]) := by
    have hap : ∀ (x y : Ob), [x] ++ [y] = [x, y] := fun _ _ => rfl
    have l1 : ∀ x : Ob, [x].length = 1 := fun _ => rfl
    have l2 : ∀ x y : Ob, [x, y].length = 2 := fun _ _ => rfl
    simp -implicitDefEqProofs only [Stms.ev, Stm.ev, Ex.ev, Ex.evT, Exs.ev, Exs.evAnd, Exs.evOr, Exs.evTAnd, Exs.evTOr, Ox.ev, Ox.evT, Lx.ev, It.ev, v_c, v_bin, v_cmp, v_bl, v_isN, v_ntN, v_not, v_tru, v_asB, v_and, v_or, v_if, v_tup, v_nil, v_cons, v_sub, v_onone, v_osome, v_slice, v_call, v_glb, v_ofE, v_disp, v_cat, v_bi1, v_biL, v_isi, v_inS, v_sidx, v_join, v_subL, v_new, v_dct, v_lenSet, v_attr, v_meth, v_nox, v_dct0, v_dcp, v_dget, v_dpop, v_chain, v_tupE, v_min2, v_listT, v_sortS, v_neL, strE, refE, q_v_setI, q_v_setA, q_v_augA, q_v_parA, v_yes, v_itL, v_itA, v_itR1, v_itR2, v_lc, q_v_asg, q_v_par, q_v_setD, q_v_expr, q_v_app, q_v_if, q_v_for, q_v_ret, o_add, o_sub, c_lt, c_le, c_gt, c_ge, a_add, R.bind_ok, R.bind_ex, R.bind_bad, R.st_ok, R.st_ex, R.st_bad, RS.seq_nx, RS.seq_rt, RS.seq_ex, RS.seq_bk, RS.seq_ct, RS.seq_bad, optR_some, optR_none, Tg.set, setAll, asB, Lt.truthy, isNon, biLE, getL_tmp, getM_tmp, Option.isSome_some, reduceIte, if_true, if_false, Bool.false_eq_true, Option.map_some, w0, w1, w2, w3, w4, w5, w6, w7, w8, w9, w10, w11, w12, w13, w14, w15, w16, w17, w18, w19, w20, w21, w22, w23, w24, x0, x1, x2, x3, x4, x5, x6, x7, x8, x9, x10, x11, x12, x13, x14, x15, x16, x17, x18, x19, x20, x21, x22, x23, x24, z0, z1, z2, z3, z4, z5, z6, z7, z8, z9, z10, z11, z12, z13, z14, z15, z16, z17, z18, z19, z20, z21, z22, z23, z24, y0, y1, y2, y3, y4, y5, y6, y7, y8, y9, y10, y11, y12, y13, y14, y15, y16, y17, y18, y19, y20, y21, y22, y23, y24, b2, hi, wipeR, List.map_cons, List.map_nil, e1, l1, hap, hi2, hlp, l2]
    rfl
  rw [e]
  refine ⟨_, rfl, ?_, rfl⟩
  refine ⟨ns.map absI, 0, 0, s2, 0, by omega, by rw [hmm]; rfl, ?_, by omega, rfl⟩
  intro x hx
  obtain ⟨z, _, rfl⟩ := List.mem_map.mp hx
  unfold absI
  split <;> omega
end K02
end
section
set_option Elab.async false
set_option linter.all false
set_option maxRecDepth 100000
set_option maxHeartbeats 1000000
/-! k02: files, deeds; what a deed does. -/
namespace K02
open PySem Lt
inductive Kd where | wr | ct | rm
deriving DecidableEq
def Kd.s : Kd → Str
  | .wr => "write" | .ct => "cut" | .rm => "remove"
structure Dd where
  k : Kd
  n : Str
  p : Nat
  r : List Nat
def Dd.e (d : Dd) : E := .tup [.str d.k.s, .str d.n, .int (d.p : Int), .tup (nats d.r)]
abbrev Fl := List (Str × List Nat)
def fe (fl : Fl) : List (Str × E) := fl.map fun p => (p.1, E.tup (nats p.2))
def getF (fl : Fl) (n : Str) : List Nat := (fl.lookup n).getD []
def putL (fl : Fl) (n : Str) (v : List Nat) : Fl := if (fl.any fun kv => decide (kv.1 = n)) = true then fl.map (fun kv => if kv.1 = n then (kv.1, v) else kv) else fl ++ [(n, v)]
def dropL (fl : Fl) (n : Str) : Fl := fl.filter fun kv => decide (kv.1 ≠ n)
def wrote (old : List Nat) (p : Nat) (r : List Nat) : List Nat := old.take p ++ r ++ old.drop (p + r.length)
def done (fl : Fl) (d : Dd) : Fl := match d.k with
  | .rm => dropL fl d.n
  | .ct => putL fl d.n ((getF fl d.n).take d.p)
  | .wr => putL fl d.n (wrote (getF fl d.n) d.p d.r)
theorem fe_len (fl : Fl) : (fe fl).length = fl.length := by simp [fe]
theorem fe_any (fl : Fl) (n : Str) : ((fe fl).any fun kv => decide (kv.1 = n)) = fl.any fun kv => decide (kv.1 = n) := by
  unfold fe
  rw [List.any_map]
  rfl
theorem fe_put (fl : Fl) (n : Str) (v : List Nat) : putS (fe fl) n (.tup (nats v)) = fe (putL fl n v) := by
  unfold putS putL
  rw [fe_any]
  split
  · unfold fe
    rw [List.map_map, List.map_map]
    refine List.map_congr_left fun kv _ => ?_
    show (if kv.1 = n then (kv.1, E.tup (nats v)) else (kv.1, E.tup (nats kv.2))) = _
    by_cases h : kv.1 = n
    · rw [if_pos h]
      simp [h]
    · rw [if_neg h]
      simp [h]
  · unfold fe
    rw [List.map_append]
    rfl
theorem fe_drop (fl : Fl) (n : Str) : dropS (fe fl) n = fe (dropL fl n) := by
  unfold dropS dropL fe
  rw [List.filter_map]
  rfl
theorem fe_look : ∀ (fl : Fl) (n : Str), (fe fl).lookup n = (fl.lookup n).map fun v => E.tup (nats v)
  | [], n => rfl
  | (a, b) :: fl, n => by
    show List.lookup n ((a, E.tup (nats b)) :: fe fl) = _
    rw [List.lookup_cons, List.lookup_cons]
    cases n == a with
    | true => rfl
    | false => exact fe_look fl n
theorem fe_get (fl : Fl) (n : Str) : ((fe fl).lookup n).getD (.tup []) = .tup (nats (getF fl n)) := by
  rw [fe_look]
  unfold getF
  cases fl.lookup n <;> rfl
theorem drop_none {fl : Fl} {n : Str} (h : fl.lookup n = none) : dropL fl n = fl := by
  unfold dropL
  rw [List.filter_eq_self]
  intro kv hkv
  rw [decide_eq_true_eq]
  intro e
  have : ∀ (fl : Fl), kv ∈ fl → fl.lookup n ≠ none := by
    intro fl
    induction fl with
    | nil => intro h; cases h
    | cons a fl ih =>
      intro h
      rw [List.lookup_cons]
      cases q : n == a.1 with
      | true => simp
      | false =>
        rcases List.mem_cons.mp h with rfl | h
        · rw [e] at q; simp at q
        · exact ih h
  exact this fl hkv h
theorem c_eqS {a b : Str} : cmpop .eq (.str a) (.str b) = some (decide (a = b)) := by
  show eqE (.str a) (.str b) = _
  unfold eqE
  simp only [E.dat]
  rw [if_pos (.inl (by show (0 : Nat) ≤ 64; omega))]
  rfl
theorem dct_at {H : Hq} {n : Nat} {kvs : List (Str × E)} (h : H[n]? = some (.dct kvs)) : dctE H (.ref n) = some kvs := by
  show (match H[n]? with | some (.dct kvs) => some kvs | _ => none) = _
  rw [h]
theorem len_dct {G : Hq} {t : Nat} {xs : List (Str × E)} (h : G[t]? = some (.dct xs)) : lenE G (.ref t) = some xs.length := by
  show (match G[t]? with | some (.lst xs) => some xs.length | some (.rol xs) => some xs.length | some (.dct kvs) => some kvs.length | _ => none) = _
  rw [h]
theorem len_tup {H : Hq} {l : List Nat} : lenE H (.tup (nats l)) = some l.length := by
  show some (nats l).length = _
  rw [nats_len]
theorem cut_lo {row : List Nat} {b : Nat} : cutE none (some (b : Int)) (.tup (nats row)) = some (.tup (nats (row.take b))) := by
  show some (E.tup (((nats row).drop 0).take (HT.sIx (nats row).length (nats row).length (some (b : Int)) - 0))) = _
  rw [sIx_nat, nats_len, List.drop_zero, Nat.sub_zero]
  unfold nats
  rw [← List.map_take]
  congr 3
  rcases Nat.le_total b row.length with h | h
  · rw [Nat.min_eq_left h]
  · rw [Nat.min_eq_right h, List.take_of_length_le (Nat.le_refl _), List.take_of_length_le h]
theorem cut_hi {row : List Nat} {a : Nat} : cutE (some (a : Int)) none (.tup (nats row)) = some (.tup (nats (row.drop a))) := by
  show some (E.tup (((nats row).drop (HT.sIx (nats row).length 0 (some (a : Int)))).take ((nats row).length - HT.sIx (nats row).length 0 (some (a : Int))))) = _
  rw [sIx_nat, nats_len]
  unfold nats
  rw [← List.map_drop, ← List.map_take]
  congr 3
  rcases Nat.le_total a row.length with h | h
  · rw [Nat.min_eq_left h, List.take_of_length_le (by rw [List.length_drop]; omega)]
  · rw [Nat.min_eq_right h, List.drop_of_length_le (Nat.le_refl _), List.drop_of_length_le h]
    simp
theorem glb0 {k : Nat} : (Pn k).gl 0 = some (.int 16) := rfl
theorem glb1 {k : Nat} : (Pn k).gl 1 = some (.int 40) := rfl
section
variable {H : Hq}
theorem dct_new {kvs : List (Str × E)} : dctE (H ++ [.dct kvs]) (.ref H.length) = some kvs := dct_at get_new
theorem len_new {kvs : List (Str × E)} : lenE (H ++ [.dct kvs]) (.ref H.length) = some kvs.length := len_dct get_new
theorem k_rr : decide (Kd.rm.s = ("remove" : Str)) = true := by decide +kernel
theorem k_cr : decide (Kd.ct.s = ("remove" : Str)) = false := by decide +kernel
theorem k_wr : decide (Kd.wr.s = ("remove" : Str)) = false := by decide +kernel
theorem k_cc : decide (Kd.ct.s = ("cut" : Str)) = true := by decide +kernel
theorem k_wc : decide (Kd.wr.s = ("cut" : Str)) = false := by decide +kernel
/-- small enough for the machine -/
structure Fit (fl : Fl) (d : Dd) : Prop where
  few : fl.length ≤ 1000
  row : (getF fl d.n).length + d.r.length ≤ 100000
theorem done_len (fl : Fl) (d : Dd) : (done fl d).length ≤ fl.length + 1 := by
  unfold done
  have hp : ∀ v, (putL fl d.n v).length ≤ fl.length + 1 := fun v => by
    unfold putL
    split
    · simp
    · simp
  cases d.k with
  | rm =>
    have := List.length_filter_le (fun kv : Str × List Nat => decide (kv.1 ≠ d.n)) fl
    show (dropL fl d.n).length ≤ _
    unfold dropL
    omega
  | ct => exact hp _
  | wr => exact hp _
theorem line_lt {n : Nat} (h : n ≤ 1000000) : (n < sizeLine) = True := by
  refine propext ⟨fun _ => trivial, fun _ => ?_⟩
  rw [sizeLine_eq]
  omega
theorem done_ok {k fd : Nat} {fl : Fl} {d : Dd} (hf : H[fd]? = some (.dct (fe fl))) (hF : Fit fl d) (h40 : (done fl d).length ≤ 40) :
    cl (k + 1) 1 [.ref fd, .str d.k.s, .str d.n, .int (d.p : Int), .tup (nats d.r)] H = .ok (.ref H.length) (H ++ [.dct (fe (done fl d))]) := by
  obtain ⟨kd, n, p, r⟩ := d
  have hd := dct_at hf
  have hb := done_len fl ⟨kd, n, p, r⟩
  have hl : decide (((done fl ⟨kd, n, p, r⟩).length : Int) > 40) = false := decide_eq_false (by omega)
  have hfew := hF.few
  have hrow := hF.row
  have fl1 : (fl.length < sizeLine) = True := line_lt (by omega)
  rw [cl_succ (fn := f1) rfl rfl]
  show endR false H (b1.ev (Pn k) [some (.ref fd), some (.str kd.s), some (.str n), some (.int (p : Int)), some (.tup (nats r)), none, none] H) = _
  cases kd with
  | rm =>
    have e : b1.ev (Pn k) [some (.ref fd), some (.str Kd.rm.s), some (.str n), some (.int (p : Int)), some (.tup (nats r)), none, none] H = .rt (.ref H.length) (H ++ [.dct (fe (done fl ⟨.rm, n, p, r⟩))]) := by
      cases hlk : (fe fl).lookup n with
      | some v =>
        simp -implicitDefEqProofs only [Stms.ev, Stm.ev, Ex.ev, Ex.evT, Exs.ev, Exs.evAnd, Exs.evOr, Exs.evTAnd, Exs.evTOr, Ox.ev, Ox.evT, Lx.ev, It.ev, v_c, v_bin, v_cmp, v_bl, v_isN, v_ntN, v_not, v_tru, v_asB, v_and, v_or, v_if, v_tup, v_nil, v_cons, v_sub, v_onone, v_osome, v_slice, v_call, v_glb, v_ofE, v_disp, v_cat, v_bi1, v_biL, v_isi, v_inS, v_sidx, v_join, v_subL, v_new, v_dct, v_lenSet, v_attr, v_meth, v_nox, v_dct0, v_dcp, v_dget, v_dpop, v_chain, v_tupE, v_min2, v_listT, v_sortS, v_neL, strE, refE, q_v_setI, q_v_setA, q_v_augA, q_v_parA, v_yes, v_itL, v_itA, v_itR1, v_itR2, v_lc, q_v_asg, q_v_par, q_v_setD, q_v_expr, q_v_app, q_v_if, q_v_for, q_v_ret, o_add, o_sub, c_lt, c_le, c_gt, c_ge, a_add, R.bind_ok, R.bind_ex, R.bind_bad, R.st_ok, R.st_ex, R.st_bad, RS.seq_nx, RS.seq_rt, RS.seq_ex, RS.seq_bk, RS.seq_ct, RS.seq_bad, optR_some, optR_none, Tg.set, setAll, asB, Lt.truthy, isNon, biLE, getL_tmp, getM_tmp, Option.isSome_some, reduceIte, if_true, if_false, Bool.false_eq_true, Option.map_some, w0, w1, w2, w3, w4, w5, w6, w7, w8, w9, w10, w11, w12, w13, w14, w15, w16, w17, w18, w19, w20, w21, w22, w23, w24, x0, x1, x2, x3, x4, x5, x6, x7, x8, x9, x10, x11, x12, x13, x14, x15, x16, x17, x18, x19, x20, x21, x22, x23, x24, z0, z1, z2, z3, z4, z5, z6, z7, z8, z9, z10, z11, z12, z13, z14, z15, z16, z17, z18, z19, z20, z21, z22, z23, z24, y0, y1, y2, y3, y4, y5, y6, y7, y8, y9, y10, y11, y12, y13, y14, y15, y16, y17, y18, y19, y20, y21, y22, y23, y24, b1, hd, c_eqS, k_rr, dct_new, hlk, set_new, fe_drop, len_new, fe_len, bi1E, glb1]
        rw [show dropL fl n = done fl ⟨.rm, n, p, r⟩ from rfl]
        simp -implicitDefEqProofs only [Stms.ev, Stm.ev, Ex.ev, Ex.evT, Exs.ev, Exs.evAnd, Exs.evOr, Exs.evTAnd, Exs.evTOr, Ox.ev, Ox.evT, Lx.ev, It.ev, v_c, v_bin, v_cmp, v_bl, v_isN, v_ntN, v_not, v_tru, v_asB, v_and, v_or, v_if, v_tup, v_nil, v_cons, v_sub, v_onone, v_osome, v_slice, v_call, v_glb, v_ofE, v_disp, v_cat, v_bi1, v_biL, v_isi, v_inS, v_sidx, v_join, v_subL, v_new, v_dct, v_lenSet, v_attr, v_meth, v_nox, v_dct0, v_dcp, v_dget, v_dpop, v_chain, v_tupE, v_min2, v_listT, v_sortS, v_neL, strE, refE, q_v_setI, q_v_setA, q_v_augA, q_v_parA, v_yes, v_itL, v_itA, v_itR1, v_itR2, v_lc, q_v_asg, q_v_par, q_v_setD, q_v_expr, q_v_app, q_v_if, q_v_for, q_v_ret, o_add, o_sub, c_lt, c_le, c_gt, c_ge, a_add, R.bind_ok, R.bind_ex, R.bind_bad, R.st_ok, R.st_ex, R.st_bad, RS.seq_nx, RS.seq_rt, RS.seq_ex, RS.seq_bk, RS.seq_ct, RS.seq_bad, optR_some, optR_none, Tg.set, setAll, asB, Lt.truthy, isNon, biLE, getL_tmp, getM_tmp, Option.isSome_some, reduceIte, if_true, if_false, Bool.false_eq_true, Option.map_some, w0, w1, w2, w3, w4, w5, w6, w7, w8, w9, w10, w11, w12, w13, w14, w15, w16, w17, w18, w19, w20, w21, w22, w23, w24, x0, x1, x2, x3, x4, x5, x6, x7, x8, x9, x10, x11, x12, x13, x14, x15, x16, x17, x18, x19, x20, x21, x22, x23, x24, z0, z1, z2, z3, z4, z5, z6, z7, z8, z9, z10, z11, z12, z13, z14, z15, z16, z17, z18, z19, z20, z21, z22, z23, z24, y0, y1, y2, y3, y4, y5, y6, y7, y8, y9, y10, y11, y12, y13, y14, y15, y16, y17, y18, y19, y20, y21, y22, y23, y24, hl]
      | none =>
        have hsame : dropL fl n = fl := drop_none (by rw [fe_look] at hlk; simpa using hlk)
        simp -implicitDefEqProofs only [Stms.ev, Stm.ev, Ex.ev, Ex.evT, Exs.ev, Exs.evAnd, Exs.evOr, Exs.evTAnd, Exs.evTOr, Ox.ev, Ox.evT, Lx.ev, It.ev, v_c, v_bin, v_cmp, v_bl, v_isN, v_ntN, v_not, v_tru, v_asB, v_and, v_or, v_if, v_tup, v_nil, v_cons, v_sub, v_onone, v_osome, v_slice, v_call, v_glb, v_ofE, v_disp, v_cat, v_bi1, v_biL, v_isi, v_inS, v_sidx, v_join, v_subL, v_new, v_dct, v_lenSet, v_attr, v_meth, v_nox, v_dct0, v_dcp, v_dget, v_dpop, v_chain, v_tupE, v_min2, v_listT, v_sortS, v_neL, strE, refE, q_v_setI, q_v_setA, q_v_augA, q_v_parA, v_yes, v_itL, v_itA, v_itR1, v_itR2, v_lc, q_v_asg, q_v_par, q_v_setD, q_v_expr, q_v_app, q_v_if, q_v_for, q_v_ret, o_add, o_sub, c_lt, c_le, c_gt, c_ge, a_add, R.bind_ok, R.bind_ex, R.bind_bad, R.st_ok, R.st_ex, R.st_bad, RS.seq_nx, RS.seq_rt, RS.seq_ex, RS.seq_bk, RS.seq_ct, RS.seq_bad, optR_some, optR_none, Tg.set, setAll, asB, Lt.truthy, isNon, biLE, getL_tmp, getM_tmp, Option.isSome_some, reduceIte, if_true, if_false, Bool.false_eq_true, Option.map_some, w0, w1, w2, w3, w4, w5, w6, w7, w8, w9, w10, w11, w12, w13, w14, w15, w16, w17, w18, w19, w20, w21, w22, w23, w24, x0, x1, x2, x3, x4, x5, x6, x7, x8, x9, x10, x11, x12, x13, x14, x15, x16, x17, x18, x19, x20, x21, x22, x23, x24, z0, z1, z2, z3, z4, z5, z6, z7, z8, z9, z10, z11, z12, z13, z14, z15, z16, z17, z18, z19, z20, z21, z22, z23, z24, y0, y1, y2, y3, y4, y5, y6, y7, y8, y9, y10, y11, y12, y13, y14, y15, y16, y17, y18, y19, y20, y21, y22, y23, y24, b1, hd, c_eqS, k_rr, dct_new, hlk, len_new, fe_len, bi1E, glb1]
        rw [show fl = done fl ⟨.rm, n, p, r⟩ from hsame.symm]
        have e2 : done (done fl ⟨.rm, n, p, r⟩) ⟨.rm, n, p, r⟩ = done fl ⟨.rm, n, p, r⟩ := by
          show dropL (dropL fl n) n = dropL fl n
          rw [hsame, hsame]
        rw [e2]
        simp -implicitDefEqProofs only [Stms.ev, Stm.ev, Ex.ev, Ex.evT, Exs.ev, Exs.evAnd, Exs.evOr, Exs.evTAnd, Exs.evTOr, Ox.ev, Ox.evT, Lx.ev, It.ev, v_c, v_bin, v_cmp, v_bl, v_isN, v_ntN, v_not, v_tru, v_asB, v_and, v_or, v_if, v_tup, v_nil, v_cons, v_sub, v_onone, v_osome, v_slice, v_call, v_glb, v_ofE, v_disp, v_cat, v_bi1, v_biL, v_isi, v_inS, v_sidx, v_join, v_subL, v_new, v_dct, v_lenSet, v_attr, v_meth, v_nox, v_dct0, v_dcp, v_dget, v_dpop, v_chain, v_tupE, v_min2, v_listT, v_sortS, v_neL, strE, refE, q_v_setI, q_v_setA, q_v_augA, q_v_parA, v_yes, v_itL, v_itA, v_itR1, v_itR2, v_lc, q_v_asg, q_v_par, q_v_setD, q_v_expr, q_v_app, q_v_if, q_v_for, q_v_ret, o_add, o_sub, c_lt, c_le, c_gt, c_ge, a_add, R.bind_ok, R.bind_ex, R.bind_bad, R.st_ok, R.st_ex, R.st_bad, RS.seq_nx, RS.seq_rt, RS.seq_ex, RS.seq_bk, RS.seq_ct, RS.seq_bad, optR_some, optR_none, Tg.set, setAll, asB, Lt.truthy, isNon, biLE, getL_tmp, getM_tmp, Option.isSome_some, reduceIte, if_true, if_false, Bool.false_eq_true, Option.map_some, w0, w1, w2, w3, w4, w5, w6, w7, w8, w9, w10, w11, w12, w13, w14, w15, w16, w17, w18, w19, w20, w21, w22, w23, w24, x0, x1, x2, x3, x4, x5, x6, x7, x8, x9, x10, x11, x12, x13, x14, x15, x16, x17, x18, x19, x20, x21, x22, x23, x24, z0, z1, z2, z3, z4, z5, z6, z7, z8, z9, z10, z11, z12, z13, z14, z15, z16, z17, z18, z19, z20, z21, z22, z23, z24, y0, y1, y2, y3, y4, y5, y6, y7, y8, y9, y10, y11, y12, y13, y14, y15, y16, y17, y18, y19, y20, y21, y22, y23, y24, hl]
    rw [e]
    rfl
  | ct =>
    have e : b1.ev (Pn k) [some (.ref fd), some (.str Kd.ct.s), some (.str n), some (.int (p : Int)), some (.tup (nats r)), none, none] H = .rt (.ref H.length) (H ++ [.dct (fe (done fl ⟨.ct, n, p, r⟩))]) := by
      have g0 : ([] : List E).length ≤ sizeLine := le_line (by simp)
      simp -implicitDefEqProofs only [Stms.ev, Stm.ev, Ex.ev, Ex.evT, Exs.ev, Exs.evAnd, Exs.evOr, Exs.evTAnd, Exs.evTOr, Ox.ev, Ox.evT, Lx.ev, It.ev, v_c, v_bin, v_cmp, v_bl, v_isN, v_ntN, v_not, v_tru, v_asB, v_and, v_or, v_if, v_tup, v_nil, v_cons, v_sub, v_onone, v_osome, v_slice, v_call, v_glb, v_ofE, v_disp, v_cat, v_bi1, v_biL, v_isi, v_inS, v_sidx, v_join, v_subL, v_new, v_dct, v_lenSet, v_attr, v_meth, v_nox, v_dct0, v_dcp, v_dget, v_dpop, v_chain, v_tupE, v_min2, v_listT, v_sortS, v_neL, strE, refE, q_v_setI, q_v_setA, q_v_augA, q_v_parA, v_yes, v_itL, v_itA, v_itR1, v_itR2, v_lc, q_v_asg, q_v_par, q_v_setD, q_v_expr, q_v_app, q_v_if, q_v_for, q_v_ret, o_add, o_sub, c_lt, c_le, c_gt, c_ge, a_add, R.bind_ok, R.bind_ex, R.bind_bad, R.st_ok, R.st_ex, R.st_bad, RS.seq_nx, RS.seq_rt, RS.seq_ex, RS.seq_bk, RS.seq_ct, RS.seq_bad, optR_some, optR_none, Tg.set, setAll, asB, Lt.truthy, isNon, biLE, getL_tmp, getM_tmp, Option.isSome_some, reduceIte, if_true, if_false, Bool.false_eq_true, Option.map_some, w0, w1, w2, w3, w4, w5, w6, w7, w8, w9, w10, w11, w12, w13, w14, w15, w16, w17, w18, w19, w20, w21, w22, w23, w24, x0, x1, x2, x3, x4, x5, x6, x7, x8, x9, x10, x11, x12, x13, x14, x15, x16, x17, x18, x19, x20, x21, x22, x23, x24, z0, z1, z2, z3, z4, z5, z6, z7, z8, z9, z10, z11, z12, z13, z14, z15, z16, z17, z18, z19, z20, z21, z22, z23, z24, y0, y1, y2, y3, y4, y5, y6, y7, y8, y9, y10, y11, y12, y13, y14, y15, y16, y17, y18, y19, y20, y21, y22, y23, y24, b1, hd, c_eqS, k_cr, k_cc, dct_new, g0, fe_get, cut_lo, get_new, fl1, set_new, fe_put, len_new, fe_len, bi1E, glb1]
      rw [show putL fl n ((getF fl n).take p) = done fl ⟨.ct, n, p, r⟩ from rfl]
      simp -implicitDefEqProofs only [Stms.ev, Stm.ev, Ex.ev, Ex.evT, Exs.ev, Exs.evAnd, Exs.evOr, Exs.evTAnd, Exs.evTOr, Ox.ev, Ox.evT, Lx.ev, It.ev, v_c, v_bin, v_cmp, v_bl, v_isN, v_ntN, v_not, v_tru, v_asB, v_and, v_or, v_if, v_tup, v_nil, v_cons, v_sub, v_onone, v_osome, v_slice, v_call, v_glb, v_ofE, v_disp, v_cat, v_bi1, v_biL, v_isi, v_inS, v_sidx, v_join, v_subL, v_new, v_dct, v_lenSet, v_attr, v_meth, v_nox, v_dct0, v_dcp, v_dget, v_dpop, v_chain, v_tupE, v_min2, v_listT, v_sortS, v_neL, strE, refE, q_v_setI, q_v_setA, q_v_augA, q_v_parA, v_yes, v_itL, v_itA, v_itR1, v_itR2, v_lc, q_v_asg, q_v_par, q_v_setD, q_v_expr, q_v_app, q_v_if, q_v_for, q_v_ret, o_add, o_sub, c_lt, c_le, c_gt, c_ge, a_add, R.bind_ok, R.bind_ex, R.bind_bad, R.st_ok, R.st_ex, R.st_bad, RS.seq_nx, RS.seq_rt, RS.seq_ex, RS.seq_bk, RS.seq_ct, RS.seq_bad, optR_some, optR_none, Tg.set, setAll, asB, Lt.truthy, isNon, biLE, getL_tmp, getM_tmp, Option.isSome_some, reduceIte, if_true, if_false, Bool.false_eq_true, Option.map_some, w0, w1, w2, w3, w4, w5, w6, w7, w8, w9, w10, w11, w12, w13, w14, w15, w16, w17, w18, w19, w20, w21, w22, w23, w24, x0, x1, x2, x3, x4, x5, x6, x7, x8, x9, x10, x11, x12, x13, x14, x15, x16, x17, x18, x19, x20, x21, x22, x23, x24, z0, z1, z2, z3, z4, z5, z6, z7, z8, z9, z10, z11, z12, z13, z14, z15, z16, z17, z18, z19, z20, z21, z22, z23, z24, y0, y1, y2, y3, y4, y5, y6, y7, y8, y9, y10, y11, y12, y13, y14, y15, y16, y17, y18, y19, y20, y21, y22, y23, y24, hl]
    rw [e]
    rfl
  | wr =>
    have e : b1.ev (Pn k) [some (.ref fd), some (.str Kd.wr.s), some (.str n), some (.int (p : Int)), some (.tup (nats r)), none, none] H = .rt (.ref H.length) (H ++ [.dct (fe (done fl ⟨.wr, n, p, r⟩))]) := by
      have g0 : ([] : List E).length ≤ sizeLine := le_line (by simp)
      have hc := cut_hi (row := getF fl n) (a := p + r.length)
      rw [Int.natCast_add] at hc
      have a1 : binop .add (.tup (nats ((getF fl n).take p))) (.tup (nats r)) = some (.tup (nats ((getF fl n).take p ++ r))) := by
        rw [o_addT (by rw [nats_len, nats_len, List.length_take]; dsimp only at hrow; omega), nats_app]
      have a2 : binop .add (.tup (nats ((getF fl n).take p ++ r))) (.tup (nats ((getF fl n).drop (p + r.length)))) = some (.tup (nats (wrote (getF fl n) p r))) := by
        rw [o_addT (by rw [nats_len, nats_len, List.length_append, List.length_take, List.length_drop]; dsimp only at hrow; omega), ← nats_app]
        rfl
      simp -implicitDefEqProofs only [Stms.ev, Stm.ev, Ex.ev, Ex.evT, Exs.ev, Exs.evAnd, Exs.evOr, Exs.evTAnd, Exs.evTOr, Ox.ev, Ox.evT, Lx.ev, It.ev, v_c, v_bin, v_cmp, v_bl, v_isN, v_ntN, v_not, v_tru, v_asB, v_and, v_or, v_if, v_tup, v_nil, v_cons, v_sub, v_onone, v_osome, v_slice, v_call, v_glb, v_ofE, v_disp, v_cat, v_bi1, v_biL, v_isi, v_inS, v_sidx, v_join, v_subL, v_new, v_dct, v_lenSet, v_attr, v_meth, v_nox, v_dct0, v_dcp, v_dget, v_dpop, v_chain, v_tupE, v_min2, v_listT, v_sortS, v_neL, strE, refE, q_v_setI, q_v_setA, q_v_augA, q_v_parA, v_yes, v_itL, v_itA, v_itR1, v_itR2, v_lc, q_v_asg, q_v_par, q_v_setD, q_v_expr, q_v_app, q_v_if, q_v_for, q_v_ret, o_add, o_sub, c_lt, c_le, c_gt, c_ge, a_add, R.bind_ok, R.bind_ex, R.bind_bad, R.st_ok, R.st_ex, R.st_bad, RS.seq_nx, RS.seq_rt, RS.seq_ex, RS.seq_bk, RS.seq_ct, RS.seq_bad, optR_some, optR_none, Tg.set, setAll, asB, Lt.truthy, isNon, biLE, getL_tmp, getM_tmp, Option.isSome_some, reduceIte, if_true, if_false, Bool.false_eq_true, Option.map_some, w0, w1, w2, w3, w4, w5, w6, w7, w8, w9, w10, w11, w12, w13, w14, w15, w16, w17, w18, w19, w20, w21, w22, w23, w24, x0, x1, x2, x3, x4, x5, x6, x7, x8, x9, x10, x11, x12, x13, x14, x15, x16, x17, x18, x19, x20, x21, x22, x23, x24, z0, z1, z2, z3, z4, z5, z6, z7, z8, z9, z10, z11, z12, z13, z14, z15, z16, z17, z18, z19, z20, z21, z22, z23, z24, y0, y1, y2, y3, y4, y5, y6, y7, y8, y9, y10, y11, y12, y13, y14, y15, y16, y17, y18, y19, y20, y21, y22, y23, y24, b1, hd, c_eqS, k_wr, k_wc, dct_new, g0, fe_get, cut_lo, len_tup, bi1E, hc, a1, a2, get_new, fl1, set_new, fe_put, len_new, fe_len, glb1]
      rw [show putL fl n (wrote (getF fl n) p r) = done fl ⟨.wr, n, p, r⟩ from rfl]
      simp -implicitDefEqProofs only [Stms.ev, Stm.ev, Ex.ev, Ex.evT, Exs.ev, Exs.evAnd, Exs.evOr, Exs.evTAnd, Exs.evTOr, Ox.ev, Ox.evT, Lx.ev, It.ev, v_c, v_bin, v_cmp, v_bl, v_isN, v_ntN, v_not, v_tru, v_asB, v_and, v_or, v_if, v_tup, v_nil, v_cons, v_sub, v_onone, v_osome, v_slice, v_call, v_glb, v_ofE, v_disp, v_cat, v_bi1, v_biL, v_isi, v_inS, v_sidx, v_join, v_subL, v_new, v_dct, v_lenSet, v_attr, v_meth, v_nox, v_dct0, v_dcp, v_dget, v_dpop, v_chain, v_tupE, v_min2, v_listT, v_sortS, v_neL, strE, refE, q_v_setI, q_v_setA, q_v_augA, q_v_parA, v_yes, v_itL, v_itA, v_itR1, v_itR2, v_lc, q_v_asg, q_v_par, q_v_setD, q_v_expr, q_v_app, q_v_if, q_v_for, q_v_ret, o_add, o_sub, c_lt, c_le, c_gt, c_ge, a_add, R.bind_ok, R.bind_ex, R.bind_bad, R.st_ok, R.st_ex, R.st_bad, RS.seq_nx, RS.seq_rt, RS.seq_ex, RS.seq_bk, RS.seq_ct, RS.seq_bad, optR_some, optR_none, Tg.set, setAll, asB, Lt.truthy, isNon, biLE, getL_tmp, getM_tmp, Option.isSome_some, reduceIte, if_true, if_false, Bool.false_eq_true, Option.map_some, w0, w1, w2, w3, w4, w5, w6, w7, w8, w9, w10, w11, w12, w13, w14, w15, w16, w17, w18, w19, w20, w21, w22, w23, w24, x0, x1, x2, x3, x4, x5, x6, x7, x8, x9, x10, x11, x12, x13, x14, x15, x16, x17, x18, x19, x20, x21, x22, x23, x24, z0, z1, z2, z3, z4, z5, z6, z7, z8, z9, z10, z11, z12, z13, z14, z15, z16, z17, z18, z19, z20, z21, z22, z23, z24, y0, y1, y2, y3, y4, y5, y6, y7, y8, y9, y10, y11, y12, y13, y14, y15, y16, y17, y18, y19, y20, y21, y22, y23, y24, hl]
    rw [e]
    rfl
end
end K02
end
section
set_option Elab.async false
set_option linter.all false
set_option maxRecDepth 100000
set_option maxHeartbeats 1000000
/-! k02: the law's own deed, its own view. -/
namespace K02
open PySem Lt
theorem ixN_nat {n j : Nat} (h : j < n) : L2.ixN n (j : Int) = some j := by
  unfold L2.ixN
  rw [if_pos (by omega), if_pos (by omega)]
  simp
theorem nats_set {l : List Nat} {j a : Nat} : (nats l).set j (.int (a : Int)) = nats (l.set j a) := by
  unfold nats
  rw [List.map_set]
section
variable {H : Hq}
theorem ld_turn {G : Hq} {k p j a : Nat} {r cur : List Nat} {s0 s1 s2 s3 s6 : Option E} (ha : r[j]? = some a) (hc : cur.length ≤ 1000000) :
    b4_0.ev (Pn k) [s0, s1, s2, s3, some (.int (p : Int)), some (.tup (nats r)), s6, some (.ref G.length), some (.int (j : Int))] (G ++ [.lst (nats cur)]) =
      .nx [s0, s1, s2, s3, some (.int (p : Int)), some (.tup (nats r)), s6, some (.ref G.length), some (.int (j : Int))] (G ++ [.lst (nats (if p + j < cur.length then cur.set (p + j) a else cur ++ [a]))]) := by
  have hs := sub_nats (H := G ++ [.lst (nats cur)]) ha
  have hl : lenE (G ++ [.lst (nats cur)]) (.ref G.length) = some cur.length := by
    rw [len_lst (xs := nats cur) get_new, nats_len]
  by_cases h : p + j < cur.length
  · have c : decide ((p : Int) + (j : Int) < (cur.length : Int)) = true := decide_eq_true (by omega)
    have hi : L2.ixN (nats cur).length ((p : Int) + (j : Int)) = some (p + j) := by
      rw [nats_len, ← Int.natCast_add]
      exact ixN_nat h
    rw [if_pos h]
    simp -implicitDefEqProofs only [Stms.ev, Stm.ev, Ex.ev, Ex.evT, Exs.ev, Exs.evAnd, Exs.evOr, Exs.evTAnd, Exs.evTOr, Ox.ev, Ox.evT, Lx.ev, It.ev, v_c, v_bin, v_cmp, v_bl, v_isN, v_ntN, v_not, v_tru, v_asB, v_and, v_or, v_if, v_tup, v_nil, v_cons, v_sub, v_onone, v_osome, v_slice, v_call, v_glb, v_ofE, v_disp, v_cat, v_bi1, v_biL, v_isi, v_inS, v_sidx, v_join, v_subL, v_new, v_dct, v_lenSet, v_attr, v_meth, v_nox, v_dct0, v_dcp, v_dget, v_dpop, v_chain, v_tupE, v_min2, v_listT, v_sortS, v_neL, strE, refE, q_v_setI, q_v_setA, q_v_augA, q_v_parA, v_yes, v_itL, v_itA, v_itR1, v_itR2, v_lc, q_v_asg, q_v_par, q_v_setD, q_v_expr, q_v_app, q_v_if, q_v_for, q_v_ret, o_add, o_sub, c_lt, c_le, c_gt, c_ge, a_add, R.bind_ok, R.bind_ex, R.bind_bad, R.st_ok, R.st_ex, R.st_bad, RS.seq_nx, RS.seq_rt, RS.seq_ex, RS.seq_bk, RS.seq_ct, RS.seq_bad, optR_some, optR_none, Tg.set, setAll, asB, Lt.truthy, isNon, biLE, getL_tmp, getM_tmp, Option.isSome_some, reduceIte, if_true, if_false, Bool.false_eq_true, Option.map_some, w0, w1, w2, w3, w4, w5, w6, w7, w8, w9, w10, w11, w12, w13, w14, w15, w16, w17, w18, w19, w20, w21, w22, w23, w24, x0, x1, x2, x3, x4, x5, x6, x7, x8, x9, x10, x11, x12, x13, x14, x15, x16, x17, x18, x19, x20, x21, x22, x23, x24, z0, z1, z2, z3, z4, z5, z6, z7, z8, z9, z10, z11, z12, z13, z14, z15, z16, z17, z18, z19, z20, z21, z22, z23, z24, y0, y1, y2, y3, y4, y5, y6, y7, y8, y9, y10, y11, y12, y13, y14, y15, y16, y17, y18, y19, y20, y21, y22, y23, y24, b4_0, hl, bi1E, c, hs, get_new, hi, nats_set, set_new]
  · have c : decide ((p : Int) + (j : Int) < (cur.length : Int)) = false := decide_eq_false (by omega)
    have hlt : (cur.length < sizeLine) = True := line_lt hc
    rw [if_neg h]
    simp -implicitDefEqProofs only [Stms.ev, Stm.ev, Ex.ev, Ex.evT, Exs.ev, Exs.evAnd, Exs.evOr, Exs.evTAnd, Exs.evTOr, Ox.ev, Ox.evT, Lx.ev, It.ev, v_c, v_bin, v_cmp, v_bl, v_isN, v_ntN, v_not, v_tru, v_asB, v_and, v_or, v_if, v_tup, v_nil, v_cons, v_sub, v_onone, v_osome, v_slice, v_call, v_glb, v_ofE, v_disp, v_cat, v_bi1, v_biL, v_isi, v_inS, v_sidx, v_join, v_subL, v_new, v_dct, v_lenSet, v_attr, v_meth, v_nox, v_dct0, v_dcp, v_dget, v_dpop, v_chain, v_tupE, v_min2, v_listT, v_sortS, v_neL, strE, refE, q_v_setI, q_v_setA, q_v_augA, q_v_parA, v_yes, v_itL, v_itA, v_itR1, v_itR2, v_lc, q_v_asg, q_v_par, q_v_setD, q_v_expr, q_v_app, q_v_if, q_v_for, q_v_ret, o_add, o_sub, c_lt, c_le, c_gt, c_ge, a_add, R.bind_ok, R.bind_ex, R.bind_bad, R.st_ok, R.st_ex, R.st_bad, RS.seq_nx, RS.seq_rt, RS.seq_ex, RS.seq_bk, RS.seq_ct, RS.seq_bad, optR_some, optR_none, Tg.set, setAll, asB, Lt.truthy, isNon, biLE, getL_tmp, getM_tmp, Option.isSome_some, reduceIte, if_true, if_false, Bool.false_eq_true, Option.map_some, w0, w1, w2, w3, w4, w5, w6, w7, w8, w9, w10, w11, w12, w13, w14, w15, w16, w17, w18, w19, w20, w21, w22, w23, w24, x0, x1, x2, x3, x4, x5, x6, x7, x8, x9, x10, x11, x12, x13, x14, x15, x16, x17, x18, x19, x20, x21, x22, x23, x24, z0, z1, z2, z3, z4, z5, z6, z7, z8, z9, z10, z11, z12, z13, z14, z15, z16, z17, z18, z19, z20, z21, z22, z23, z24, y0, y1, y2, y3, y4, y5, y6, y7, y8, y9, y10, y11, y12, y13, y14, y15, y16, y17, y18, y19, y20, y21, y22, y23, y24, b4_0, hl, bi1E, c, hs, getL_new, get_new, nats_len, hlt, set_new]
    rw [nats_app]
    rfl
/-- the list behind j bytes -/
def curL (old r : List Nat) (p j : Nat) : List Nat := old.take p ++ r.take j ++ old.drop (p + j)
theorem curL_len (old r : List Nat) (p j : Nat) : (curL old r p j).length ≤ old.length + r.length := by
  unfold curL
  rw [List.length_append, List.length_append, List.length_take, List.length_take, List.length_drop]
  omega
theorem curL_succ {old r : List Nat} {p j a : Nat} (ha : r[j]? = some a) : (if p + j < (curL old r p j).length then (curL old r p j).set (p + j) a else curL old r p j ++ [a]) = curL old r p (j + 1) := by
  have hj : j < r.length := (List.getElem?_eq_some_iff.mp ha).1
  have ht : r.take (j + 1) = r.take j ++ [a] := by
    rw [List.take_succ, ha]
    rfl
  have hlen : (curL old r p j).length = min p old.length + j + (old.length - (p + j)) := by
    unfold curL
    rw [List.length_append, List.length_append, List.length_take, List.length_take, List.length_drop]
    omega
  by_cases h : p + j < old.length
  · rw [if_pos (by omega)]
    unfold curL
    rw [List.set_append_right _ _ (by rw [List.length_append, List.length_take, List.length_take]; omega), List.length_append, List.length_take, List.length_take]
    have e0 : p + j - (min p old.length + min j r.length) = 0 := by omega
    rw [e0, List.drop_eq_getElem_cons h, List.set_cons_zero, ht]
    simp [Nat.add_assoc]
  · rw [if_neg (by omega)]
    unfold curL
    rw [List.drop_of_length_le (by omega), List.drop_of_length_le (by omega), ht]
    simp
theorem ld_loop {G : Hq} {k p : Nat} {r old : List Nat} {s0 s1 s2 s3 s6 : Option E} {all : List E} {tg : Tg} (htg : tg = .name ⟨8, "k", ⟨151, 12, 151, 13⟩⟩) (hb : old.length + r.length ≤ 1000000) : ∀ (m j : Nat) (v : Option E), j + m = r.length →
    ∃ v2, forS none all tg (b4_0.ev (Pn k)) (ups j m) [s0, s1, s2, s3, some (.int (p : Int)), some (.tup (nats r)), s6, some (.ref G.length), v] (G ++ [.lst (nats (curL old r p j))]) =
      .nx [s0, s1, s2, s3, some (.int (p : Int)), some (.tup (nats r)), s6, some (.ref G.length), v2] (G ++ [.lst (nats (curL old r p r.length))])
  | 0, j, v, h => ⟨v, by rw [show r.length = j by omega]; exact for_end rfl⟩
  | m + 1, j, v, h => by
    obtain ⟨a, ha⟩ : ∃ a, r[j]? = some a := ⟨_, List.getElem?_eq_getElem (show j < r.length by omega)⟩
    obtain ⟨v2, h2⟩ := ld_loop (s0 := s0) (s1 := s1) (s2 := s2) (s3 := s3) (s6 := s6) (G := G) (k := k) (p := p) (old := old) htg hb m (j + 1) (some (.int (j : Int))) (by omega)
    refine ⟨v2, ?_⟩
    have hc := curL_len old r p j
    have ht := ld_turn (G := G) (k := k) (p := p) (s0 := s0) (s1 := s1) (s2 := s2) (s3 := s3) (s6 := s6) (cur := curL old r p j) ha (by omega)
    rw [curL_succ ha] at ht
    subst htg
    rw [ups_succ, for_nx (ρ1 := [s0, s1, s2, s3, some (.int (p : Int)), some (.tup (nats r)), s6, some (.ref G.length), some (.int (j : Int))]) rfl rfl ht, h2]
theorem curL_end (old r : List Nat) (p : Nat) : curL old r p r.length = wrote old p r := by
  unfold curL wrote
  rw [List.take_length]
theorem curL_zero (old r : List Nat) (p : Nat) : curL old r p 0 = old := by
  unfold curL
  simp
theorem law_done_ok {k fd : Nat} {fl : Fl} {d : Dd} (hf : H[fd]? = some (.dct (fe fl))) (hF : Fit fl d) :
    ∃ J, cl (k + 1) 4 [.ref fd, d.e] H = .ok (.ref H.length) (H ++ [.dct (fe (done fl d))] ++ J) := by
  obtain ⟨kd, n, p, r⟩ := d
  have hd := dct_at hf
  have hfew := hF.few
  have hrow : (getF fl n).length + r.length ≤ 100000 := hF.row
  have fl1 : (fl.length < sizeLine) = True := line_lt (by omega)
  rw [cl_succ (fn := f4) rfl rfl]
  show ∃ J, endR false H (b4.ev (Pn k) [some (.ref fd), some (Dd.e ⟨kd, n, p, r⟩), none, none, none, none, none, none, none] H) = _
  cases kd with
  | rm =>
    refine ⟨[], ?_⟩
    have e : b4.ev (Pn k) [some (.ref fd), some (Dd.e ⟨.rm, n, p, r⟩), none, none, none, none, none, none, none] H = .rt (.ref H.length) (H ++ [.dct (fe (done fl ⟨.rm, n, p, r⟩))]) := by
      cases hlk : (fe fl).lookup n with
      | some v =>
        simp -implicitDefEqProofs only [Stms.ev, Stm.ev, Ex.ev, Ex.evT, Exs.ev, Exs.evAnd, Exs.evOr, Exs.evTAnd, Exs.evTOr, Ox.ev, Ox.evT, Lx.ev, It.ev, v_c, v_bin, v_cmp, v_bl, v_isN, v_ntN, v_not, v_tru, v_asB, v_and, v_or, v_if, v_tup, v_nil, v_cons, v_sub, v_onone, v_osome, v_slice, v_call, v_glb, v_ofE, v_disp, v_cat, v_bi1, v_biL, v_isi, v_inS, v_sidx, v_join, v_subL, v_new, v_dct, v_lenSet, v_attr, v_meth, v_nox, v_dct0, v_dcp, v_dget, v_dpop, v_chain, v_tupE, v_min2, v_listT, v_sortS, v_neL, strE, refE, q_v_setI, q_v_setA, q_v_augA, q_v_parA, v_yes, v_itL, v_itA, v_itR1, v_itR2, v_lc, q_v_asg, q_v_par, q_v_setD, q_v_expr, q_v_app, q_v_if, q_v_for, q_v_ret, o_add, o_sub, c_lt, c_le, c_gt, c_ge, a_add, R.bind_ok, R.bind_ex, R.bind_bad, R.st_ok, R.st_ex, R.st_bad, RS.seq_nx, RS.seq_rt, RS.seq_ex, RS.seq_bk, RS.seq_ct, RS.seq_bad, optR_some, optR_none, Tg.set, setAll, asB, Lt.truthy, isNon, biLE, getL_tmp, getM_tmp, Option.isSome_some, reduceIte, if_true, if_false, Bool.false_eq_true, Option.map_some, w0, w1, w2, w3, w4, w5, w6, w7, w8, w9, w10, w11, w12, w13, w14, w15, w16, w17, w18, w19, w20, w21, w22, w23, w24, x0, x1, x2, x3, x4, x5, x6, x7, x8, x9, x10, x11, x12, x13, x14, x15, x16, x17, x18, x19, x20, x21, x22, x23, x24, z0, z1, z2, z3, z4, z5, z6, z7, z8, z9, z10, z11, z12, z13, z14, z15, z16, z17, z18, z19, z20, z21, z22, z23, z24, y0, y1, y2, y3, y4, y5, y6, y7, y8, y9, y10, y11, y12, y13, y14, y15, y16, y17, y18, y19, y20, y21, y22, y23, y24, b4, Dd.e, hd, c_eqS, k_rr, dct_new, hlk, set_new, fe_drop]
        rfl
      | none =>
        have hsame : dropL fl n = fl := drop_none (by rw [fe_look] at hlk; simpa using hlk)
        simp -implicitDefEqProofs only [Stms.ev, Stm.ev, Ex.ev, Ex.evT, Exs.ev, Exs.evAnd, Exs.evOr, Exs.evTAnd, Exs.evTOr, Ox.ev, Ox.evT, Lx.ev, It.ev, v_c, v_bin, v_cmp, v_bl, v_isN, v_ntN, v_not, v_tru, v_asB, v_and, v_or, v_if, v_tup, v_nil, v_cons, v_sub, v_onone, v_osome, v_slice, v_call, v_glb, v_ofE, v_disp, v_cat, v_bi1, v_biL, v_isi, v_inS, v_sidx, v_join, v_subL, v_new, v_dct, v_lenSet, v_attr, v_meth, v_nox, v_dct0, v_dcp, v_dget, v_dpop, v_chain, v_tupE, v_min2, v_listT, v_sortS, v_neL, strE, refE, q_v_setI, q_v_setA, q_v_augA, q_v_parA, v_yes, v_itL, v_itA, v_itR1, v_itR2, v_lc, q_v_asg, q_v_par, q_v_setD, q_v_expr, q_v_app, q_v_if, q_v_for, q_v_ret, o_add, o_sub, c_lt, c_le, c_gt, c_ge, a_add, R.bind_ok, R.bind_ex, R.bind_bad, R.st_ok, R.st_ex, R.st_bad, RS.seq_nx, RS.seq_rt, RS.seq_ex, RS.seq_bk, RS.seq_ct, RS.seq_bad, optR_some, optR_none, Tg.set, setAll, asB, Lt.truthy, isNon, biLE, getL_tmp, getM_tmp, Option.isSome_some, reduceIte, if_true, if_false, Bool.false_eq_true, Option.map_some, w0, w1, w2, w3, w4, w5, w6, w7, w8, w9, w10, w11, w12, w13, w14, w15, w16, w17, w18, w19, w20, w21, w22, w23, w24, x0, x1, x2, x3, x4, x5, x6, x7, x8, x9, x10, x11, x12, x13, x14, x15, x16, x17, x18, x19, x20, x21, x22, x23, x24, z0, z1, z2, z3, z4, z5, z6, z7, z8, z9, z10, z11, z12, z13, z14, z15, z16, z17, z18, z19, z20, z21, z22, z23, z24, y0, y1, y2, y3, y4, y5, y6, y7, y8, y9, y10, y11, y12, y13, y14, y15, y16, y17, y18, y19, y20, y21, y22, y23, y24, b4, Dd.e, hd, c_eqS, k_rr, dct_new, hlk]
        rw [show done fl ⟨.rm, n, p, r⟩ = fl from hsame]
    rw [e, List.append_nil]
    rfl
  | ct =>
    refine ⟨[], ?_⟩
    have e : b4.ev (Pn k) [some (.ref fd), some (Dd.e ⟨.ct, n, p, r⟩), none, none, none, none, none, none, none] H = .rt (.ref H.length) (H ++ [.dct (fe (done fl ⟨.ct, n, p, r⟩))]) := by
      have g0 : ([] : List E).length ≤ sizeLine := le_line (by simp)
      simp -implicitDefEqProofs only [Stms.ev, Stm.ev, Ex.ev, Ex.evT, Exs.ev, Exs.evAnd, Exs.evOr, Exs.evTAnd, Exs.evTOr, Ox.ev, Ox.evT, Lx.ev, It.ev, v_c, v_bin, v_cmp, v_bl, v_isN, v_ntN, v_not, v_tru, v_asB, v_and, v_or, v_if, v_tup, v_nil, v_cons, v_sub, v_onone, v_osome, v_slice, v_call, v_glb, v_ofE, v_disp, v_cat, v_bi1, v_biL, v_isi, v_inS, v_sidx, v_join, v_subL, v_new, v_dct, v_lenSet, v_attr, v_meth, v_nox, v_dct0, v_dcp, v_dget, v_dpop, v_chain, v_tupE, v_min2, v_listT, v_sortS, v_neL, strE, refE, q_v_setI, q_v_setA, q_v_augA, q_v_parA, v_yes, v_itL, v_itA, v_itR1, v_itR2, v_lc, q_v_asg, q_v_par, q_v_setD, q_v_expr, q_v_app, q_v_if, q_v_for, q_v_ret, o_add, o_sub, c_lt, c_le, c_gt, c_ge, a_add, R.bind_ok, R.bind_ex, R.bind_bad, R.st_ok, R.st_ex, R.st_bad, RS.seq_nx, RS.seq_rt, RS.seq_ex, RS.seq_bk, RS.seq_ct, RS.seq_bad, optR_some, optR_none, Tg.set, setAll, asB, Lt.truthy, isNon, biLE, getL_tmp, getM_tmp, Option.isSome_some, reduceIte, if_true, if_false, Bool.false_eq_true, Option.map_some, w0, w1, w2, w3, w4, w5, w6, w7, w8, w9, w10, w11, w12, w13, w14, w15, w16, w17, w18, w19, w20, w21, w22, w23, w24, x0, x1, x2, x3, x4, x5, x6, x7, x8, x9, x10, x11, x12, x13, x14, x15, x16, x17, x18, x19, x20, x21, x22, x23, x24, z0, z1, z2, z3, z4, z5, z6, z7, z8, z9, z10, z11, z12, z13, z14, z15, z16, z17, z18, z19, z20, z21, z22, z23, z24, y0, y1, y2, y3, y4, y5, y6, y7, y8, y9, y10, y11, y12, y13, y14, y15, y16, y17, y18, y19, y20, y21, y22, y23, y24, b4, Dd.e, hd, c_eqS, k_cr, k_cc, dct_new, g0, fe_get, cut_lo, get_new, fe_len, fl1, set_new, fe_put]
      rfl
    rw [e, List.append_nil]
    rfl
  | wr =>
    refine ⟨[.lst (nats (wrote (getF fl n) p r))], ?_⟩
    have e : b4.ev (Pn k) [some (.ref fd), some (Dd.e ⟨.wr, n, p, r⟩), none, none, none, none, none, none, none] H = .rt (.ref H.length) (H ++ [.dct (fe (done fl ⟨.wr, n, p, r⟩))] ++ [.lst (nats (wrote (getF fl n) p r))]) := by
      have g0 : ([] : List E).length ≤ sizeLine := le_line (by simp)
      obtain ⟨v2, hlp⟩ := ld_loop (G := H ++ [.dct (fe fl)]) (k := k) (p := p) (r := r) (old := getF fl n) (s0 := some (.ref fd)) (s1 := some (Dd.e ⟨.wr, n, p, r⟩)) (s2 := some (.str Kd.wr.s)) (s3 := some (.str n)) (s6 := some (.ref H.length)) (all := rng 0 r.length) rfl (by omega) r.length 0 none (by omega)
      rw [curL_zero, curL_end, ← rng_ups] at hlp
      have hlp : forS none (rng 0 r.length) _ (b4_0.ev (Pn k)) (rng 0 r.length) _ _ = _ := hlp
      have hin : in62 (r.length : Int) = true := in62_nat (by omega)
      have hlt : H.length < (H ++ [Ob.dct (fe fl)]).length := by simp
      have gd : (H ++ [Ob.dct (fe fl)] ++ [Ob.lst (nats (wrote (getF fl n) p r))])[H.length]? = some (.dct (fe fl)) := by simp
      have gset : (H ++ [Ob.dct (fe fl)] ++ [Ob.lst (nats (wrote (getF fl n) p r))]).set H.length (.dct (fe (done fl ⟨.wr, n, p, r⟩))) = H ++ [Ob.dct (fe (done fl ⟨.wr, n, p, r⟩))] ++ [Ob.lst (nats (wrote (getF fl n) p r))] := by
        rw [List.set_append_left _ _ hlt, set_new]
      have hput := fe_put fl n (wrote (getF fl n) p r)
      rw [show putL fl n (wrote (getF fl n) p r) = done fl ⟨.wr, n, p, r⟩ from rfl] at hput
      simp -implicitDefEqProofs only [Stms.ev, Stm.ev, Ex.ev, Ex.evT, Exs.ev, Exs.evAnd, Exs.evOr, Exs.evTAnd, Exs.evTOr, Ox.ev, Ox.evT, Lx.ev, It.ev, v_c, v_bin, v_cmp, v_bl, v_isN, v_ntN, v_not, v_tru, v_asB, v_and, v_or, v_if, v_tup, v_nil, v_cons, v_sub, v_onone, v_osome, v_slice, v_call, v_glb, v_ofE, v_disp, v_cat, v_bi1, v_biL, v_isi, v_inS, v_sidx, v_join, v_subL, v_new, v_dct, v_lenSet, v_attr, v_meth, v_nox, v_dct0, v_dcp, v_dget, v_dpop, v_chain, v_tupE, v_min2, v_listT, v_sortS, v_neL, strE, refE, q_v_setI, q_v_setA, q_v_augA, q_v_parA, v_yes, v_itL, v_itA, v_itR1, v_itR2, v_lc, q_v_asg, q_v_par, q_v_setD, q_v_expr, q_v_app, q_v_if, q_v_for, q_v_ret, o_add, o_sub, c_lt, c_le, c_gt, c_ge, a_add, R.bind_ok, R.bind_ex, R.bind_bad, R.st_ok, R.st_ex, R.st_bad, RS.seq_nx, RS.seq_rt, RS.seq_ex, RS.seq_bk, RS.seq_ct, RS.seq_bad, optR_some, optR_none, Tg.set, setAll, asB, Lt.truthy, isNon, biLE, getL_tmp, getM_tmp, Option.isSome_some, reduceIte, if_true, if_false, Bool.false_eq_true, Option.map_some, w0, w1, w2, w3, w4, w5, w6, w7, w8, w9, w10, w11, w12, w13, w14, w15, w16, w17, w18, w19, w20, w21, w22, w23, w24, x0, x1, x2, x3, x4, x5, x6, x7, x8, x9, x10, x11, x12, x13, x14, x15, x16, x17, x18, x19, x20, x21, x22, x23, x24, z0, z1, z2, z3, z4, z5, z6, z7, z8, z9, z10, z11, z12, z13, z14, z15, z16, z17, z18, z19, z20, z21, z22, z23, z24, y0, y1, y2, y3, y4, y5, y6, y7, y8, y9, y10, y11, y12, y13, y14, y15, y16, y17, y18, y19, y20, y21, y22, y23, y24, b4, Dd.e, hd, c_eqS, k_wr, k_wc, dct_new, g0, fe_get, len_tup, bi1E, intE, hin, Int.toNat_natCast]
      unfold Dd.e at hlp
      simp -implicitDefEqProofs only [Stms.ev, Stm.ev, Ex.ev, Ex.evT, Exs.ev, Exs.evAnd, Exs.evOr, Exs.evTAnd, Exs.evTOr, Ox.ev, Ox.evT, Lx.ev, It.ev, v_c, v_bin, v_cmp, v_bl, v_isN, v_ntN, v_not, v_tru, v_asB, v_and, v_or, v_if, v_tup, v_nil, v_cons, v_sub, v_onone, v_osome, v_slice, v_call, v_glb, v_ofE, v_disp, v_cat, v_bi1, v_biL, v_isi, v_inS, v_sidx, v_join, v_subL, v_new, v_dct, v_lenSet, v_attr, v_meth, v_nox, v_dct0, v_dcp, v_dget, v_dpop, v_chain, v_tupE, v_min2, v_listT, v_sortS, v_neL, strE, refE, q_v_setI, q_v_setA, q_v_augA, q_v_parA, v_yes, v_itL, v_itA, v_itR1, v_itR2, v_lc, q_v_asg, q_v_par, q_v_setD, q_v_expr, q_v_app, q_v_if, q_v_for, q_v_ret, o_add, o_sub, c_lt, c_le, c_gt, c_ge, a_add, R.bind_ok, R.bind_ex, R.bind_bad, R.st_ok, R.st_ex, R.st_bad, RS.seq_nx, RS.seq_rt, RS.seq_ex, RS.seq_bk, RS.seq_ct, RS.seq_bad, optR_some, optR_none, Tg.set, setAll, asB, Lt.truthy, isNon, biLE, getL_tmp, getM_tmp, Option.isSome_some, reduceIte, if_true, if_false, Bool.false_eq_true, Option.map_some, w0, w1, w2, w3, w4, w5, w6, w7, w8, w9, w10, w11, w12, w13, w14, w15, w16, w17, w18, w19, w20, w21, w22, w23, w24, x0, x1, x2, x3, x4, x5, x6, x7, x8, x9, x10, x11, x12, x13, x14, x15, x16, x17, x18, x19, x20, x21, x22, x23, x24, z0, z1, z2, z3, z4, z5, z6, z7, z8, z9, z10, z11, z12, z13, z14, z15, z16, z17, z18, z19, z20, z21, z22, z23, z24, y0, y1, y2, y3, y4, y5, y6, y7, y8, y9, y10, y11, y12, y13, y14, y15, y16, y17, y18, y19, y20, y21, y22, y23, y24, hlp, getL_new, gd, fe_len, fl1, hput, gset]
    rw [e]
    rfl
end
end K02
end
section
set_option Elab.async false
set_option linter.all false
set_option maxRecDepth 100000
set_option maxHeartbeats 1000000
/-! k02: the law's view; the disk's parts. -/
namespace K02
open PySem Lt
/-- bounds -/
structure Bd (fl : Fl) (c M : Nat) : Prop where
  few : fl.length ≤ c
  len : ∀ n, (getF fl n).length ≤ M
theorem look_put : ∀ (fl : Fl) (n m : Str) (v : List Nat), (putL fl n v).lookup m = if m = n then some v else fl.lookup m := by
  intro fl n m v
  have hmap : ∀ fl : Fl, (fl.map (fun kv => if kv.1 = n then (kv.1, v) else kv)).lookup m = if m = n then (fl.lookup m).map (fun _ => v) else fl.lookup m := by
    intro fl
    induction fl with
    | nil => simp
    | cons a fl ih =>
      obtain ⟨x, y⟩ := a
      rw [List.map_cons]
      by_cases hx : x = n
      · subst hx
        rw [if_pos rfl, List.lookup_cons, List.lookup_cons]
        cases q : m == x with
        | true =>
          have e : m = x := by simpa using q
          rw [if_pos e]
          rfl
        | false =>
          have e : ¬ m = x := by simpa using q
          rw [ih]
      · rw [if_neg hx, List.lookup_cons, List.lookup_cons]
        cases q : m == x with
        | true =>
          have e : m = x := by simpa using q
          rw [if_neg (fun z => hx (e.symm.trans z))]
        | false => rw [ih]
  have hany : ∀ fl : Fl, (fl.any fun kv => decide (kv.1 = n)) = (fl.lookup n).isSome := by
    intro fl
    induction fl with
    | nil => rfl
    | cons a fl ih =>
      rw [List.any_cons, List.lookup_cons, ih]
      by_cases hx : a.1 = n
      · simp [hx]
      · have : (n == a.1) = false := by simpa using fun z => hx z.symm
        simp [hx, this]
  have happ : ∀ fl : Fl, fl.lookup n = none → (fl ++ [(n, v)]).lookup m = if m = n then some v else fl.lookup m := by
    intro fl
    induction fl with
    | nil =>
      intro _
      show List.lookup m [(n, v)] = _
      rw [List.lookup_cons]
      by_cases e : m = n
      · simp [e]
      · have : (m == n) = false := by simpa using e
        simp [this, e]
    | cons a fl ih =>
      intro h
      rw [List.lookup_cons] at h
      cases q : n == a.1 with
      | true => rw [q] at h; cases h
      | false =>
        rw [q] at h
        rw [List.cons_append, List.lookup_cons, List.lookup_cons]
        cases q2 : m == a.1 with
        | true =>
          have e2 : m = a.1 := by simpa using q2
          have e : ¬ m = n := fun z => by rw [← z, q2] at q; cases q
          rw [if_neg e]
        | false => exact ih h
  unfold putL
  rw [hany]
  by_cases hs : (fl.lookup n).isSome = true
  · rw [if_pos hs, hmap]
    by_cases e : m = n
    · subst e
      obtain ⟨w, hw⟩ := Option.isSome_iff_exists.mp hs
      simp [hw]
    · rw [if_neg e, if_neg e]
  · rw [if_neg hs]
    exact happ fl (Option.not_isSome_iff_eq_none.mp hs)
theorem look_drop (fl : Fl) (n m : Str) : (dropL fl n).lookup m = if m = n then none else fl.lookup m := by
  induction fl with
  | nil => simp [dropL]
  | cons a fl ih =>
    unfold dropL at *
    by_cases hx : a.1 = n
    · rw [List.filter_cons_of_neg (by simpa using hx), ih, List.lookup_cons]
      by_cases e : m = n
      · rw [if_pos e, if_pos e]
      · have : (m == a.1) = false := by rw [hx]; simpa using e
        rw [if_neg e, if_neg e, this]
    · rw [List.filter_cons_of_pos (by simpa using hx), List.lookup_cons, ih, List.lookup_cons]
      cases q : m == a.1 with
      | true =>
        have e : m = a.1 := by simpa using q
        show some a.2 = if m = n then none else some a.2
        rw [if_neg (fun z => hx (e.symm.trans z))]
      | false => rfl
/-- what one deed does to its own file -/
def dn1 (o : Option (List Nat)) (d : Dd) : Option (List Nat) := match d.k with
  | .rm => none
  | .ct => some ((o.getD []).take d.p)
  | .wr => some (wrote (o.getD []) d.p d.r)
theorem look_done (fl : Fl) (d : Dd) (m : Str) : (done fl d).lookup m = if m = d.n then dn1 (fl.lookup d.n) d else fl.lookup m := by
  unfold done dn1
  cases d.k with
  | rm => exact look_drop fl d.n m
  | ct => exact look_put fl d.n m _
  | wr => exact look_put fl d.n m _
theorem wrote_len (old r : List Nat) (p : Nat) : (wrote old p r).length ≤ old.length + r.length := by
  rw [← curL_end]
  exact curL_len old r p r.length
theorem dn1_len (o : Option (List Nat)) (d : Dd) : ((dn1 o d).getD []).length ≤ (o.getD []).length + d.r.length := by
  unfold dn1
  cases d.k with
  | rm => simp
  | ct => simp; omega
  | wr => exact wrote_len _ _ _
theorem Bd.done {fl : Fl} {c M R : Nat} {d : Dd} (h : Bd fl c M) (hr : d.r.length ≤ R) : Bd (K02.done fl d) (c + 1) (M + R) := by
  refine ⟨Nat.le_trans (done_len fl d) (by have := h.few; omega), fun n => ?_⟩
  unfold getF
  rw [look_done]
  split
  · have h1 := dn1_len (fl.lookup d.n) d
    have h2 := h.len d.n
    unfold getF at h2
    omega
  · have := h.len n
    unfold getF at this
    omega
theorem Bd.fit {fl : Fl} {c M : Nat} {d : Dd} (h : Bd fl c M) (hc : c ≤ 1000) (hr : M + d.r.length ≤ 100000) : Fit fl d := ⟨by have := h.few; omega, by have := h.len d.n; omega⟩
theorem Bd.mono {fl : Fl} {c M c2 M2 : Nat} (h : Bd fl c M) (h1 : c ≤ c2) (h2 : M ≤ M2) : Bd fl c2 M2 := ⟨by have := h.few; omega, fun n => by have := h.len n; omega⟩
theorem Bd.all {R : Nat} : ∀ {ds : List Dd} {fl : Fl} {c M : Nat}, Bd fl c M → (∀ d ∈ ds, d.r.length ≤ R) → Bd (ds.foldl K02.done fl) (c + ds.length) (M + R * ds.length)
  | [], fl, c, M, h, _ => h.mono (by simp) (by simp)
  | d :: ds, fl, c, M, h, hd => by
    have h1 := h.done (hd d List.mem_cons_self)
    have h2 := Bd.all h1 fun x hx => hd x (List.mem_cons_of_mem _ hx)
    refine h2.mono (by rw [List.length_cons]; omega) ?_
    rw [List.length_cons, Nat.mul_succ]
    omega
theorem get_app {H J : Hq} {i : Nat} {o : Ob} (h : H[i]? = some o) : (H ++ J)[i]? = some o := by
  rw [List.getElem?_append_left (List.getElem?_eq_some_iff.mp h).1]
  exact h
theorem stays_at {H : Hq} {n : Nat} {xs : List E} (h : H[n]? = some (.lst xs)) : staysB (some n) xs H = true := by
  have e : LH.get H (.pl n) = some xs := by
    show (match H[n]? with | some (.lst xs) => some xs | some (.rol xs) => some xs | _ => none) = _
    rw [h]
  show (match LH.get H (.pl n) with | some ys => E.eqbs ys xs | none => false) = true
  rw [e]
  exact E.eqbs_refl xs
theorem it_at {H : Hq} {n : Nat} {xs : List E} (h : H[n]? = some (.lst xs)) : itE H (.ref n) = some (xs, some n) := by
  have e : LH.get H (.pl n) = some xs := by
    show (match H[n]? with | some (.lst xs) => some xs | some (.rol xs) => some xs | _ => none) = _
    rw [h]
  show (LH.get H (.pl n)).map _ = _
  rw [e]
  rfl
theorem seen_loop {k wr : Nat} {all : List Dd} {tg : Tg} (htg : tg = .name ⟨2, "deed", ⟨159, 8, 159, 12⟩⟩) : ∀ (ds : List Dd) (H : Hq) (fd c M : Nat) (fl : Fl) (v : Option E), H[fd]? = some (.dct (fe fl)) → H[wr]? = some (.lst (all.map Dd.e)) → Bd fl c M → (∀ d ∈ ds, d.r.length ≤ 50) → c + ds.length ≤ 1000 → M + 50 * ds.length ≤ 50000 →
    ∃ v2 f2 J, forS (some wr) (all.map Dd.e) tg (b5_0.ev (Pn (k + 1))) (ds.map Dd.e) [some (.ref fd), some (.ref wr), v] H = .nx [some (.ref f2), some (.ref wr), v2] (H ++ J) ∧ (H ++ J)[f2]? = some (.dct (fe (ds.foldl done fl)))
  | [], H, fd, c, M, fl, v, hf, hw, hB, _, _, _ => ⟨v, fd, [], by rw [List.append_nil, List.map_nil, for_end (stays_at hw)], by rw [List.append_nil]; exact hf⟩
  | d :: ds, H, fd, c, M, fl, v, hf, hw, hB, hd, hc, hM => by
    rw [List.length_cons] at hc hM
    have hd0 := hd d List.mem_cons_self
    obtain ⟨J1, h1⟩ := law_done_ok (k := k) hf (hB.fit (d := d) (by omega) (by omega))
    rw [← par_cl] at h1
    have hturn : b5_0.ev (Pn (k + 1)) [some (.ref fd), some (.ref wr), some d.e] H = .nx [some (.ref H.length), some (.ref wr), some d.e] (H ++ [.dct (fe (done fl d))] ++ J1) := by
      simp -implicitDefEqProofs only [Stms.ev, Stm.ev, Ex.ev, Ex.evT, Exs.ev, Exs.evAnd, Exs.evOr, Exs.evTAnd, Exs.evTOr, Ox.ev, Ox.evT, Lx.ev, It.ev, v_c, v_bin, v_cmp, v_bl, v_isN, v_ntN, v_not, v_tru, v_asB, v_and, v_or, v_if, v_tup, v_nil, v_cons, v_sub, v_onone, v_osome, v_slice, v_call, v_glb, v_ofE, v_disp, v_cat, v_bi1, v_biL, v_isi, v_inS, v_sidx, v_join, v_subL, v_new, v_dct, v_lenSet, v_attr, v_meth, v_nox, v_dct0, v_dcp, v_dget, v_dpop, v_chain, v_tupE, v_min2, v_listT, v_sortS, v_neL, strE, refE, q_v_setI, q_v_setA, q_v_augA, q_v_parA, v_yes, v_itL, v_itA, v_itR1, v_itR2, v_lc, q_v_asg, q_v_par, q_v_setD, q_v_expr, q_v_app, q_v_if, q_v_for, q_v_ret, o_add, o_sub, c_lt, c_le, c_gt, c_ge, a_add, R.bind_ok, R.bind_ex, R.bind_bad, R.st_ok, R.st_ex, R.st_bad, RS.seq_nx, RS.seq_rt, RS.seq_ex, RS.seq_bk, RS.seq_ct, RS.seq_bad, optR_some, optR_none, Tg.set, setAll, asB, Lt.truthy, isNon, biLE, getL_tmp, getM_tmp, Option.isSome_some, reduceIte, if_true, if_false, Bool.false_eq_true, Option.map_some, w0, w1, w2, w3, w4, w5, w6, w7, w8, w9, w10, w11, w12, w13, w14, w15, w16, w17, w18, w19, w20, w21, w22, w23, w24, x0, x1, x2, x3, x4, x5, x6, x7, x8, x9, x10, x11, x12, x13, x14, x15, x16, x17, x18, x19, x20, x21, x22, x23, x24, z0, z1, z2, z3, z4, z5, z6, z7, z8, z9, z10, z11, z12, z13, z14, z15, z16, z17, z18, z19, z20, z21, z22, z23, z24, y0, y1, y2, y3, y4, y5, y6, y7, y8, y9, y10, y11, y12, y13, y14, y15, y16, y17, y18, y19, y20, y21, y22, y23, y24, b5_0, h1]
    have e1 : (H ++ [Ob.dct (fe (done fl d))] ++ J1)[H.length]? = some (.dct (fe (done fl d))) := get_app get_new
    have e2 : (H ++ [Ob.dct (fe (done fl d))] ++ J1)[wr]? = some (.lst (all.map Dd.e)) := get_app (get_app hw)
    obtain ⟨v2, f2, J2, h2, h3⟩ := seen_loop (k := k) (all := all) htg ds (H ++ [.dct (fe (done fl d))] ++ J1) H.length (c + 1) (M + 50) (done fl d) (some d.e) e1 e2 (hB.done hd0) (fun x hx => hd x (List.mem_cons_of_mem _ hx)) (by omega) (by omega)
    refine ⟨v2, f2, [.dct (fe (done fl d))] ++ J1 ++ J2, ?_, ?_⟩
    · subst htg
      rw [List.map_cons, for_nx (ρ1 := [some (.ref fd), some (.ref wr), some d.e]) (stays_at hw) rfl hturn, h2]
      simp only [List.append_assoc]
    · rw [show H ++ ([Ob.dct (fe (done fl d))] ++ J1 ++ J2) = H ++ [Ob.dct (fe (done fl d))] ++ J1 ++ J2 by simp only [List.append_assoc]]
      exact h3
theorem law_seen_ok {k fd wr c M : Nat} {H : Hq} {fl : Fl} {ds : List Dd} (hf : H[fd]? = some (.dct (fe fl))) (hw : H[wr]? = some (.lst (ds.map Dd.e))) (hB : Bd fl c M) (hd : ∀ d ∈ ds, d.r.length ≤ 50) (hc : c + ds.length ≤ 1000) (hM : M + 50 * ds.length ≤ 50000) :
    ∃ f2 J, cl (k + 2) 5 [.ref fd, .ref wr] H = .ok (.ref f2) (H ++ J) ∧ (H ++ J)[f2]? = some (.dct (fe (ds.foldl done fl))) := by
  obtain ⟨v2, f2, J, h1, h2⟩ := seen_loop (k := k) (all := ds) rfl ds H fd c M fl none hf hw hB hd hc hM
  refine ⟨f2, J, ?_, h2⟩
  rw [cl_succ (fn := f5) rfl rfl]
  show endR false H (b5.ev (Pn (k + 1)) [some (.ref fd), some (.ref wr), none] H) = _
  have hi := it_at hw
  have e : b5.ev (Pn (k + 1)) [some (.ref fd), some (.ref wr), none] H = .rt (.ref f2) (H ++ J) := by
    simp -implicitDefEqProofs only [Stms.ev, Stm.ev, Ex.ev, Ex.evT, Exs.ev, Exs.evAnd, Exs.evOr, Exs.evTAnd, Exs.evTOr, Ox.ev, Ox.evT, Lx.ev, It.ev, v_c, v_bin, v_cmp, v_bl, v_isN, v_ntN, v_not, v_tru, v_asB, v_and, v_or, v_if, v_tup, v_nil, v_cons, v_sub, v_onone, v_osome, v_slice, v_call, v_glb, v_ofE, v_disp, v_cat, v_bi1, v_biL, v_isi, v_inS, v_sidx, v_join, v_subL, v_new, v_dct, v_lenSet, v_attr, v_meth, v_nox, v_dct0, v_dcp, v_dget, v_dpop, v_chain, v_tupE, v_min2, v_listT, v_sortS, v_neL, strE, refE, q_v_setI, q_v_setA, q_v_augA, q_v_parA, v_yes, v_itL, v_itA, v_itR1, v_itR2, v_lc, q_v_asg, q_v_par, q_v_setD, q_v_expr, q_v_app, q_v_if, q_v_for, q_v_ret, o_add, o_sub, c_lt, c_le, c_gt, c_ge, a_add, R.bind_ok, R.bind_ex, R.bind_bad, R.st_ok, R.st_ex, R.st_bad, RS.seq_nx, RS.seq_rt, RS.seq_ex, RS.seq_bk, RS.seq_ct, RS.seq_bad, optR_some, optR_none, Tg.set, setAll, asB, Lt.truthy, isNon, biLE, getL_tmp, getM_tmp, Option.isSome_some, reduceIte, if_true, if_false, Bool.false_eq_true, Option.map_some, w0, w1, w2, w3, w4, w5, w6, w7, w8, w9, w10, w11, w12, w13, w14, w15, w16, w17, w18, w19, w20, w21, w22, w23, w24, x0, x1, x2, x3, x4, x5, x6, x7, x8, x9, x10, x11, x12, x13, x14, x15, x16, x17, x18, x19, x20, x21, x22, x23, x24, z0, z1, z2, z3, z4, z5, z6, z7, z8, z9, z10, z11, z12, z13, z14, z15, z16, z17, z18, z19, z20, z21, z22, z23, z24, y0, y1, y2, y3, y4, y5, y6, y7, y8, y9, y10, y11, y12, y13, y14, y15, y16, y17, y18, y19, y20, y21, y22, y23, y24, b5, hi, h1]
  rw [e]
  rfl
end K02
end
section
set_option Elab.async false
set_option linter.all false
set_option maxRecDepth 100000
set_option maxHeartbeats 1000000
/-! k02: the disk, its small methods. -/
namespace K02
open PySem Lt
abbrev DO (kd nd wd : Nat) (f : E) (s : Int) : Ob := .ins "Disk" [("_kept", .ref kd), ("_now", .ref nd), ("_waiting", .ref wd), ("_fuse", f), ("_steps", .int s)]
structure DiskAt (H : Hq) (D kd nd wd : Nat) (kept now : Fl) (w : List Dd) (f : E) (s : Int) : Prop where
  at_ : H[D]? = some (DO kd nd wd f s)
  kept : H[kd]? = some (.dct (fe kept))
  now : H[nd]? = some (.dct (fe now))
  wait : H[wd]? = some (.lst (w.map Dd.e))
section
variable {H : Hq} {D kd nd wd k : Nat} {f : E} {s : Int}
theorem at_f (x : Str) (v : E) (h : H[D]? = some (DO kd nd wd f s)) (ha : (Pn k).av "Disk" x = true) (hl : ([("_kept", .ref kd), ("_now", .ref nd), ("_waiting", .ref wd), ("_fuse", f), ("_steps", .int s)] : List (Str × E)).lookup x = some v) : attrE (Pn k) H x (.ref D) = some v := by
  show (match H[D]? with | some (.ins c fs) => if (Pn k).av c x then fs.lookup x else none | _ => none) = _
  rw [h]
  show (if (Pn k).av "Disk" x then _ else none) = _
  rw [if_pos ha]
  exact hl
theorem av_kept : (Pn k).av "Disk" "_kept" = true := by show avs.contains (("Disk" : Str), ("_kept" : Str)) = true; decide +kernel
theorem av_now : (Pn k).av "Disk" "_now" = true := by show avs.contains (("Disk" : Str), ("_now" : Str)) = true; decide +kernel
theorem av_wait : (Pn k).av "Disk" "_waiting" = true := by show avs.contains (("Disk" : Str), ("_waiting" : Str)) = true; decide +kernel
theorem av_fuse : (Pn k).av "Disk" "_fuse" = true := by show avs.contains (("Disk" : Str), ("_fuse" : Str)) = true; decide +kernel
theorem av_steps : (Pn k).av "Disk" "_steps" = true := by show avs.contains (("Disk" : Str), ("_steps" : Str)) = true; decide +kernel
theorem at_kept (h : H[D]? = some (DO kd nd wd f s)) : attrE (Pn k) H "_kept" (.ref D) = some (.ref kd) := at_f _ _ h av_kept rfl
theorem at_now (h : H[D]? = some (DO kd nd wd f s)) : attrE (Pn k) H "_now" (.ref D) = some (.ref nd) := at_f _ _ h av_now rfl
theorem at_wait (h : H[D]? = some (DO kd nd wd f s)) : attrE (Pn k) H "_waiting" (.ref D) = some (.ref wd) := at_f _ _ h av_wait rfl
theorem at_fuse (h : H[D]? = some (DO kd nd wd f s)) : attrE (Pn k) H "_fuse" (.ref D) = some f := at_f _ _ h av_fuse rfl
theorem at_steps (h : H[D]? = some (DO kd nd wd f s)) : attrE (Pn k) H "_steps" (.ref D) = some (.int s) := at_f _ _ h av_steps rfl
theorem st_f (x : Str) (v : E) (o : Ob) (h : H[D]? = some (DO kd nd wd f s)) (ha : (Pn k).av "Disk" x = true) (hl : Ob.ins "Disk" (putA x v [("_kept", .ref kd), ("_now", .ref nd), ("_waiting", .ref wd), ("_fuse", f), ("_steps", .int s)]) = o) : setAtt (Pn k) (.ref D) x v H = some (H.set D o) := by
  show (match H[D]? with | some (.ins c fs) => if (Pn k).av c x && decide (fs.length < 1000) then some (H.set D (.ins c (putA x v fs))) else none | _ => none) = _
  rw [h]
  show (if ((Pn k).av "Disk" x && true) = true then some (H.set D (.ins "Disk" (putA x v _))) else none) = _
  rw [ha, if_pos (show (true && true) = true from rfl), hl]
theorem st_kept {v : Nat} (h : H[D]? = some (DO kd nd wd f s)) : setAtt (Pn k) (.ref D) "_kept" (.ref v) H = some (H.set D (DO v nd wd f s)) := st_f _ _ _ h av_kept rfl
theorem st_now {v : Nat} (h : H[D]? = some (DO kd nd wd f s)) : setAtt (Pn k) (.ref D) "_now" (.ref v) H = some (H.set D (DO kd v wd f s)) := st_f _ _ _ h av_now rfl
theorem st_wait {v : Nat} (h : H[D]? = some (DO kd nd wd f s)) : setAtt (Pn k) (.ref D) "_waiting" (.ref v) H = some (H.set D (DO kd nd v f s)) := st_f _ _ _ h av_wait rfl
theorem st_fuse {v : E} (h : H[D]? = some (DO kd nd wd f s)) : setAtt (Pn k) (.ref D) "_fuse" v H = some (H.set D (DO kd nd wd v s)) := st_f _ _ _ h av_fuse rfl
theorem st_steps {v : Int} (h : H[D]? = some (DO kd nd wd f s)) : setAtt (Pn k) (.ref D) "_steps" (.int v) H = some (H.set D (DO kd nd wd f v)) := st_f _ _ _ h av_steps rfl
theorem set_at {o x : Ob} (h : H[D]? = some o) : (H.set D x)[D]? = some x := List.getElem?_set_self (List.getElem?_eq_some_iff.mp h).1
theorem set_ne {i : Nat} {x : Ob} (h : i ≠ D) : (H.set D x)[i]? = H[i]? := List.getElem?_set_ne (Ne.symm h)
theorem dct_ne {i : Nat} {l : List (Str × E)} (h : H[D]? = some (DO kd nd wd f s)) (hi : H[i]? = some (.dct l)) : i ≠ D := fun e => by rw [e, h] at hi; cases hi
theorem lst_ne {i : Nat} {l : List E} (h : H[D]? = some (DO kd nd wd f s)) (hi : H[i]? = some (.lst l)) : i ≠ D := fun e => by rw [e, h] at hi; cases hi
theorem ld_ne {i j : Nat} {l : List E} {q : List (Str × E)} (h : H[j]? = some (.dct q)) (hi : H[i]? = some (.lst l)) : j ≠ i := fun e => by rw [e, hi] at h; cases h
/-- what else stands, stays -/
def Fr (D wd : Nat) (H H' : Hq) : Prop := H.length ≤ H'.length ∧ ∀ i, i < H.length → i ≠ D → i ≠ wd → H'[i]? = H[i]?
theorem Fr.refl : Fr D wd H H := ⟨Nat.le_refl _, fun _ _ _ _ => rfl⟩
theorem Fr.at {H' : Hq} {i : Nat} {o : Ob} (h : Fr D wd H H') (hi : H[i]? = some o) (h1 : i ≠ D) (h2 : i ≠ wd) : H'[i]? = some o := by
  rw [h.2 i (List.getElem?_eq_some_iff.mp hi).1 h1 h2]
  exact hi
theorem Fr.set {x : Ob} : Fr D wd H (H.set D x) := ⟨by rw [List.length_set]; exact Nat.le_refl _, fun i _ h1 _ => List.getElem?_set_ne (Ne.symm h1)⟩
theorem Fr.trans {H1 H2 : Hq} {wd2 : Nat} (a : Fr D wd H H1) (b : Fr D wd2 H1 H2) (h : wd2 = wd ∨ H.length ≤ wd2) : Fr D wd H H2 :=
  ⟨Nat.le_trans a.1 b.1, fun i hi h1 h2 => by rw [b.2 i (by have := a.1; omega) h1 (by rcases h with h | h <;> omega), a.2 i hi h1 h2]⟩
theorem Fr.app {J : Hq} : Fr D wd H (H ++ J) := ⟨by rw [List.length_append]; omega, fun i hi _ _ => List.getElem?_append_left hi⟩
theorem Fr.setW {x : Ob} : Fr D wd H (H.set wd x) := ⟨by rw [List.length_set]; exact Nat.le_refl _, fun i _ _ h2 => List.getElem?_set_ne (Ne.symm h2)⟩
variable {kept now : Fl} {w : List Dd}
theorem DiskAt.app {J : Hq} (h : DiskAt H D kd nd wd kept now w f s) : DiskAt (H ++ J) D kd nd wd kept now w f s := ⟨get_app h.at_, get_app h.kept, get_app h.now, get_app h.wait⟩
theorem DiskAt.put {f2 : E} {s2 : Int} (h : DiskAt H D kd nd wd kept now w f s) : DiskAt (H.set D (DO kd nd wd f2 s2)) D kd nd wd kept now w f2 s2 :=
  ⟨set_at h.at_, by rw [set_ne (dct_ne h.at_ h.kept)]; exact h.kept, by rw [set_ne (dct_ne h.at_ h.now)]; exact h.now, by rw [set_ne (lst_ne h.at_ h.wait)]; exact h.wait⟩
theorem steps_ok (h : DiskAt H D kd nd wd kept now w f s) : cl (k + 1) 9 [.ref D] H = .ok (.int s) H := by
  rw [cl_succ (fn := f9) rfl rfl]
  show endR false H (b9.ev (Pn k) [some (.ref D)] H) = _
  have h1 := at_steps (k := k) h.at_
  have e : b9.ev (Pn k) [some (.ref D)] H = .rt (.int s) H := by
    simp -implicitDefEqProofs only [Stms.ev, Stm.ev, Ex.ev, Ex.evT, Exs.ev, Exs.evAnd, Exs.evOr, Exs.evTAnd, Exs.evTOr, Ox.ev, Ox.evT, Lx.ev, It.ev, v_c, v_bin, v_cmp, v_bl, v_isN, v_ntN, v_not, v_tru, v_asB, v_and, v_or, v_if, v_tup, v_nil, v_cons, v_sub, v_onone, v_osome, v_slice, v_call, v_glb, v_ofE, v_disp, v_cat, v_bi1, v_biL, v_isi, v_inS, v_sidx, v_join, v_subL, v_new, v_dct, v_lenSet, v_attr, v_meth, v_nox, v_dct0, v_dcp, v_dget, v_dpop, v_chain, v_tupE, v_min2, v_listT, v_sortS, v_neL, strE, refE, q_v_setI, q_v_setA, q_v_augA, q_v_parA, v_yes, v_itL, v_itA, v_itR1, v_itR2, v_lc, q_v_asg, q_v_par, q_v_setD, q_v_expr, q_v_app, q_v_if, q_v_for, q_v_ret, o_add, o_sub, c_lt, c_le, c_gt, c_ge, a_add, R.bind_ok, R.bind_ex, R.bind_bad, R.st_ok, R.st_ex, R.st_bad, RS.seq_nx, RS.seq_rt, RS.seq_ex, RS.seq_bk, RS.seq_ct, RS.seq_bad, optR_some, optR_none, Tg.set, setAll, asB, Lt.truthy, isNon, biLE, getL_tmp, getM_tmp, Option.isSome_some, reduceIte, if_true, if_false, Bool.false_eq_true, Option.map_some, w0, w1, w2, w3, w4, w5, w6, w7, w8, w9, w10, w11, w12, w13, w14, w15, w16, w17, w18, w19, w20, w21, w22, w23, w24, x0, x1, x2, x3, x4, x5, x6, x7, x8, x9, x10, x11, x12, x13, x14, x15, x16, x17, x18, x19, x20, x21, x22, x23, x24, z0, z1, z2, z3, z4, z5, z6, z7, z8, z9, z10, z11, z12, z13, z14, z15, z16, z17, z18, z19, z20, z21, z22, z23, z24, y0, y1, y2, y3, y4, y5, y6, y7, y8, y9, y10, y11, y12, y13, y14, y15, y16, y17, y18, y19, y20, y21, y22, y23, y24, b9, h1]
  rw [e]
  rfl
theorem fuse_ok {v : E} (h : DiskAt H D kd nd wd kept now w f s) : cl (k + 1) 10 [.ref D, v] H = .ok .non (H.set D (DO kd nd wd v s)) := by
  rw [cl_succ (fn := f10) rfl rfl]
  show endR false H (b10.ev (Pn k) [some (.ref D), some v] H) = _
  have h1 := st_fuse (k := k) (v := v) h.at_
  have e : b10.ev (Pn k) [some (.ref D), some v] H = .nx [some (.ref D), some v] (H.set D (DO kd nd wd v s)) := by
    simp -implicitDefEqProofs only [Stms.ev, Stm.ev, Ex.ev, Ex.evT, Exs.ev, Exs.evAnd, Exs.evOr, Exs.evTAnd, Exs.evTOr, Ox.ev, Ox.evT, Lx.ev, It.ev, v_c, v_bin, v_cmp, v_bl, v_isN, v_ntN, v_not, v_tru, v_asB, v_and, v_or, v_if, v_tup, v_nil, v_cons, v_sub, v_onone, v_osome, v_slice, v_call, v_glb, v_ofE, v_disp, v_cat, v_bi1, v_biL, v_isi, v_inS, v_sidx, v_join, v_subL, v_new, v_dct, v_lenSet, v_attr, v_meth, v_nox, v_dct0, v_dcp, v_dget, v_dpop, v_chain, v_tupE, v_min2, v_listT, v_sortS, v_neL, strE, refE, q_v_setI, q_v_setA, q_v_augA, q_v_parA, v_yes, v_itL, v_itA, v_itR1, v_itR2, v_lc, q_v_asg, q_v_par, q_v_setD, q_v_expr, q_v_app, q_v_if, q_v_for, q_v_ret, o_add, o_sub, c_lt, c_le, c_gt, c_ge, a_add, R.bind_ok, R.bind_ex, R.bind_bad, R.st_ok, R.st_ex, R.st_bad, RS.seq_nx, RS.seq_rt, RS.seq_ex, RS.seq_bk, RS.seq_ct, RS.seq_bad, optR_some, optR_none, Tg.set, setAll, asB, Lt.truthy, isNon, biLE, getL_tmp, getM_tmp, Option.isSome_some, reduceIte, if_true, if_false, Bool.false_eq_true, Option.map_some, w0, w1, w2, w3, w4, w5, w6, w7, w8, w9, w10, w11, w12, w13, w14, w15, w16, w17, w18, w19, w20, w21, w22, w23, w24, x0, x1, x2, x3, x4, x5, x6, x7, x8, x9, x10, x11, x12, x13, x14, x15, x16, x17, x18, x19, x20, x21, x22, x23, x24, z0, z1, z2, z3, z4, z5, z6, z7, z8, z9, z10, z11, z12, z13, z14, z15, z16, z17, z18, z19, z20, z21, z22, z23, z24, y0, y1, y2, y3, y4, y5, y6, y7, y8, y9, y10, y11, y12, y13, y14, y15, y16, y17, y18, y19, y20, y21, y22, y23, y24, b10, h1]
  rw [e]
  rfl
theorem size_ok {n : Str} (h : DiskAt H D kd nd wd kept now w f s) : cl (k + 1) 13 [.ref D, .str n] H = .ok (.int ((getF now n).length : Int)) H := by
  rw [cl_succ (fn := f13) rfl rfl]
  show endR false H (b13.ev (Pn k) [some (.ref D), some (.str n)] H) = _
  have h1 := at_now (k := k) h.at_
  have h2 := K02.dct_at h.now
  have g0 : ([] : List E).length ≤ sizeLine := le_line (by simp)
  have e : b13.ev (Pn k) [some (.ref D), some (.str n)] H = .rt (.int ((getF now n).length : Int)) H := by
    simp -implicitDefEqProofs only [Stms.ev, Stm.ev, Ex.ev, Ex.evT, Exs.ev, Exs.evAnd, Exs.evOr, Exs.evTAnd, Exs.evTOr, Ox.ev, Ox.evT, Lx.ev, It.ev, v_c, v_bin, v_cmp, v_bl, v_isN, v_ntN, v_not, v_tru, v_asB, v_and, v_or, v_if, v_tup, v_nil, v_cons, v_sub, v_onone, v_osome, v_slice, v_call, v_glb, v_ofE, v_disp, v_cat, v_bi1, v_biL, v_isi, v_inS, v_sidx, v_join, v_subL, v_new, v_dct, v_lenSet, v_attr, v_meth, v_nox, v_dct0, v_dcp, v_dget, v_dpop, v_chain, v_tupE, v_min2, v_listT, v_sortS, v_neL, strE, refE, q_v_setI, q_v_setA, q_v_augA, q_v_parA, v_yes, v_itL, v_itA, v_itR1, v_itR2, v_lc, q_v_asg, q_v_par, q_v_setD, q_v_expr, q_v_app, q_v_if, q_v_for, q_v_ret, o_add, o_sub, c_lt, c_le, c_gt, c_ge, a_add, R.bind_ok, R.bind_ex, R.bind_bad, R.st_ok, R.st_ex, R.st_bad, RS.seq_nx, RS.seq_rt, RS.seq_ex, RS.seq_bk, RS.seq_ct, RS.seq_bad, optR_some, optR_none, Tg.set, setAll, asB, Lt.truthy, isNon, biLE, getL_tmp, getM_tmp, Option.isSome_some, reduceIte, if_true, if_false, Bool.false_eq_true, Option.map_some, w0, w1, w2, w3, w4, w5, w6, w7, w8, w9, w10, w11, w12, w13, w14, w15, w16, w17, w18, w19, w20, w21, w22, w23, w24, x0, x1, x2, x3, x4, x5, x6, x7, x8, x9, x10, x11, x12, x13, x14, x15, x16, x17, x18, x19, x20, x21, x22, x23, x24, z0, z1, z2, z3, z4, z5, z6, z7, z8, z9, z10, z11, z12, z13, z14, z15, z16, z17, z18, z19, z20, z21, z22, z23, z24, y0, y1, y2, y3, y4, y5, y6, y7, y8, y9, y10, y11, y12, y13, y14, y15, y16, y17, y18, y19, y20, y21, y22, y23, y24, b13, h1, h2, g0, fe_get, len_tup, bi1E]
  rw [e]
  rfl
theorem read_ok {n : Str} (h : DiskAt H D kd nd wd kept now w f s) : cl (k + 1) 14 [.ref D, .str n] H = .ok (.tup (nats (getF now n))) H := by
  rw [cl_succ (fn := f14) rfl rfl]
  show endR false H (b14.ev (Pn k) [some (.ref D), some (.str n)] H) = _
  have h1 := at_now (k := k) h.at_
  have h2 := K02.dct_at h.now
  have g0 : ([] : List E).length ≤ sizeLine := le_line (by simp)
  have e : b14.ev (Pn k) [some (.ref D), some (.str n)] H = .rt (.tup (nats (getF now n))) H := by
    simp -implicitDefEqProofs only [Stms.ev, Stm.ev, Ex.ev, Ex.evT, Exs.ev, Exs.evAnd, Exs.evOr, Exs.evTAnd, Exs.evTOr, Ox.ev, Ox.evT, Lx.ev, It.ev, v_c, v_bin, v_cmp, v_bl, v_isN, v_ntN, v_not, v_tru, v_asB, v_and, v_or, v_if, v_tup, v_nil, v_cons, v_sub, v_onone, v_osome, v_slice, v_call, v_glb, v_ofE, v_disp, v_cat, v_bi1, v_biL, v_isi, v_inS, v_sidx, v_join, v_subL, v_new, v_dct, v_lenSet, v_attr, v_meth, v_nox, v_dct0, v_dcp, v_dget, v_dpop, v_chain, v_tupE, v_min2, v_listT, v_sortS, v_neL, strE, refE, q_v_setI, q_v_setA, q_v_augA, q_v_parA, v_yes, v_itL, v_itA, v_itR1, v_itR2, v_lc, q_v_asg, q_v_par, q_v_setD, q_v_expr, q_v_app, q_v_if, q_v_for, q_v_ret, o_add, o_sub, c_lt, c_le, c_gt, c_ge, a_add, R.bind_ok, R.bind_ex, R.bind_bad, R.st_ok, R.st_ex, R.st_bad, RS.seq_nx, RS.seq_rt, RS.seq_ex, RS.seq_bk, RS.seq_ct, RS.seq_bad, optR_some, optR_none, Tg.set, setAll, asB, Lt.truthy, isNon, biLE, getL_tmp, getM_tmp, Option.isSome_some, reduceIte, if_true, if_false, Bool.false_eq_true, Option.map_some, w0, w1, w2, w3, w4, w5, w6, w7, w8, w9, w10, w11, w12, w13, w14, w15, w16, w17, w18, w19, w20, w21, w22, w23, w24, x0, x1, x2, x3, x4, x5, x6, x7, x8, x9, x10, x11, x12, x13, x14, x15, x16, x17, x18, x19, x20, x21, x22, x23, x24, z0, z1, z2, z3, z4, z5, z6, z7, z8, z9, z10, z11, z12, z13, z14, z15, z16, z17, z18, z19, z20, z21, z22, z23, z24, y0, y1, y2, y3, y4, y5, y6, y7, y8, y9, y10, y11, y12, y13, y14, y15, y16, y17, y18, y19, y20, y21, y22, y23, y24, b14, h1, h2, g0, fe_get]
  rw [e]
  rfl
/-- the fuse behind a step -/
def burn : E → E
  | .int i => .int (i - 1)
  | e => e
theorem step_ok (h : DiskAt H D kd nd wd kept now w f s) (hf : f = .non ∨ ∃ i : Int, f = .int i ∧ 0 < i) : cl (k + 1) 11 [.ref D] H = .ok .non (H.set D (DO kd nd wd (burn f) (s + 1))) := by
  rw [cl_succ (fn := f11) rfl rfl]
  show endR false H (b11.ev (Pn k) [some (.ref D)] H) = _
  have e : b11.ev (Pn k) [some (.ref D)] H = .nx [some (.ref D)] (H.set D (DO kd nd wd (burn f) (s + 1))) := by
    have h1 := at_fuse (k := k) h.at_
    rcases hf with rfl | ⟨i, rfl, hi⟩
    · have h2 := at_steps (k := k) h.at_
      have h3 := st_steps (k := k) (v := s + 1) h.at_
      simp -implicitDefEqProofs only [Stms.ev, Stm.ev, Ex.ev, Ex.evT, Exs.ev, Exs.evAnd, Exs.evOr, Exs.evTAnd, Exs.evTOr, Ox.ev, Ox.evT, Lx.ev, It.ev, v_c, v_bin, v_cmp, v_bl, v_isN, v_ntN, v_not, v_tru, v_asB, v_and, v_or, v_if, v_tup, v_nil, v_cons, v_sub, v_onone, v_osome, v_slice, v_call, v_glb, v_ofE, v_disp, v_cat, v_bi1, v_biL, v_isi, v_inS, v_sidx, v_join, v_subL, v_new, v_dct, v_lenSet, v_attr, v_meth, v_nox, v_dct0, v_dcp, v_dget, v_dpop, v_chain, v_tupE, v_min2, v_listT, v_sortS, v_neL, strE, refE, q_v_setI, q_v_setA, q_v_augA, q_v_parA, v_yes, v_itL, v_itA, v_itR1, v_itR2, v_lc, q_v_asg, q_v_par, q_v_setD, q_v_expr, q_v_app, q_v_if, q_v_for, q_v_ret, o_add, o_sub, c_lt, c_le, c_gt, c_ge, a_add, R.bind_ok, R.bind_ex, R.bind_bad, R.st_ok, R.st_ex, R.st_bad, RS.seq_nx, RS.seq_rt, RS.seq_ex, RS.seq_bk, RS.seq_ct, RS.seq_bad, optR_some, optR_none, Tg.set, setAll, asB, Lt.truthy, isNon, biLE, getL_tmp, getM_tmp, Option.isSome_some, reduceIte, if_true, if_false, Bool.false_eq_true, Option.map_some, w0, w1, w2, w3, w4, w5, w6, w7, w8, w9, w10, w11, w12, w13, w14, w15, w16, w17, w18, w19, w20, w21, w22, w23, w24, x0, x1, x2, x3, x4, x5, x6, x7, x8, x9, x10, x11, x12, x13, x14, x15, x16, x17, x18, x19, x20, x21, x22, x23, x24, z0, z1, z2, z3, z4, z5, z6, z7, z8, z9, z10, z11, z12, z13, z14, z15, z16, z17, z18, z19, z20, z21, z22, z23, z24, y0, y1, y2, y3, y4, y5, y6, y7, y8, y9, y10, y11, y12, y13, y14, y15, y16, y17, y18, y19, y20, y21, y22, y23, y24, b11, h1, h2, h3, Bool.not_true]
      rfl
    · have c : decide (i ≤ 0) = false := decide_eq_false (by omega)
      have h2 := st_fuse (k := k) (v := .int (i - 1)) h.at_
      have hP : DiskAt (H.set D (DO kd nd wd (.int (i - 1)) s)) D kd nd wd kept now w (.int (i - 1)) s := h.put
      have h3 := at_steps (k := k) hP.at_
      have h4 := st_steps (k := k) (v := s + 1) hP.at_
      have asub : augop .sub (.int i) (.int 1) = some (.int (i - 1)) := rfl
      simp -implicitDefEqProofs only [Stms.ev, Stm.ev, Ex.ev, Ex.evT, Exs.ev, Exs.evAnd, Exs.evOr, Exs.evTAnd, Exs.evTOr, Ox.ev, Ox.evT, Lx.ev, It.ev, v_c, v_bin, v_cmp, v_bl, v_isN, v_ntN, v_not, v_tru, v_asB, v_and, v_or, v_if, v_tup, v_nil, v_cons, v_sub, v_onone, v_osome, v_slice, v_call, v_glb, v_ofE, v_disp, v_cat, v_bi1, v_biL, v_isi, v_inS, v_sidx, v_join, v_subL, v_new, v_dct, v_lenSet, v_attr, v_meth, v_nox, v_dct0, v_dcp, v_dget, v_dpop, v_chain, v_tupE, v_min2, v_listT, v_sortS, v_neL, strE, refE, q_v_setI, q_v_setA, q_v_augA, q_v_parA, v_yes, v_itL, v_itA, v_itR1, v_itR2, v_lc, q_v_asg, q_v_par, q_v_setD, q_v_expr, q_v_app, q_v_if, q_v_for, q_v_ret, o_add, o_sub, c_lt, c_le, c_gt, c_ge, a_add, R.bind_ok, R.bind_ex, R.bind_bad, R.st_ok, R.st_ex, R.st_bad, RS.seq_nx, RS.seq_rt, RS.seq_ex, RS.seq_bk, RS.seq_ct, RS.seq_bad, optR_some, optR_none, Tg.set, setAll, asB, Lt.truthy, isNon, biLE, getL_tmp, getM_tmp, Option.isSome_some, reduceIte, if_true, if_false, Bool.false_eq_true, Option.map_some, w0, w1, w2, w3, w4, w5, w6, w7, w8, w9, w10, w11, w12, w13, w14, w15, w16, w17, w18, w19, w20, w21, w22, w23, w24, x0, x1, x2, x3, x4, x5, x6, x7, x8, x9, x10, x11, x12, x13, x14, x15, x16, x17, x18, x19, x20, x21, x22, x23, x24, z0, z1, z2, z3, z4, z5, z6, z7, z8, z9, z10, z11, z12, z13, z14, z15, z16, z17, z18, z19, z20, z21, z22, z23, z24, y0, y1, y2, y3, y4, y5, y6, y7, y8, y9, y10, y11, y12, y13, y14, y15, y16, y17, y18, y19, y20, y21, y22, y23, y24, b11, h1, c, Bool.not_false, asub, h2, h3, h4, List.set_set]
      rfl
  rw [e]
  rfl
theorem step_ex {i : Int} (h : DiskAt H D kd nd wd kept now w (.int i) s) (hi : i ≤ 0) : cl (k + 1) 11 [.ref D] H = .ex 1 H := by
  rw [cl_succ (fn := f11) rfl rfl]
  show endR false H (b11.ev (Pn k) [some (.ref D)] H) = _
  have h1 := at_fuse (k := k) h.at_
  have c : decide (i ≤ 0) = true := decide_eq_true hi
  have e : b11.ev (Pn k) [some (.ref D)] H = .ex 1 [some (.ref D)] H := by
    simp -implicitDefEqProofs only [Stms.ev, Stm.ev, Ex.ev, Ex.evT, Exs.ev, Exs.evAnd, Exs.evOr, Exs.evTAnd, Exs.evTOr, Ox.ev, Ox.evT, Lx.ev, It.ev, v_c, v_bin, v_cmp, v_bl, v_isN, v_ntN, v_not, v_tru, v_asB, v_and, v_or, v_if, v_tup, v_nil, v_cons, v_sub, v_onone, v_osome, v_slice, v_call, v_glb, v_ofE, v_disp, v_cat, v_bi1, v_biL, v_isi, v_inS, v_sidx, v_join, v_subL, v_new, v_dct, v_lenSet, v_attr, v_meth, v_nox, v_dct0, v_dcp, v_dget, v_dpop, v_chain, v_tupE, v_min2, v_listT, v_sortS, v_neL, strE, refE, q_v_setI, q_v_setA, q_v_augA, q_v_parA, v_yes, v_itL, v_itA, v_itR1, v_itR2, v_lc, q_v_asg, q_v_par, q_v_setD, q_v_expr, q_v_app, q_v_if, q_v_for, q_v_ret, o_add, o_sub, c_lt, c_le, c_gt, c_ge, a_add, R.bind_ok, R.bind_ex, R.bind_bad, R.st_ok, R.st_ex, R.st_bad, RS.seq_nx, RS.seq_rt, RS.seq_ex, RS.seq_bk, RS.seq_ct, RS.seq_bad, optR_some, optR_none, Tg.set, setAll, asB, Lt.truthy, isNon, biLE, getL_tmp, getM_tmp, Option.isSome_some, reduceIte, if_true, if_false, Bool.false_eq_true, Option.map_some, w0, w1, w2, w3, w4, w5, w6, w7, w8, w9, w10, w11, w12, w13, w14, w15, w16, w17, w18, w19, w20, w21, w22, w23, w24, x0, x1, x2, x3, x4, x5, x6, x7, x8, x9, x10, x11, x12, x13, x14, x15, x16, x17, x18, x19, x20, x21, x22, x23, x24, z0, z1, z2, z3, z4, z5, z6, z7, z8, z9, z10, z11, z12, z13, z14, z15, z16, z17, z18, z19, z20, z21, z22, z23, z24, y0, y1, y2, y3, y4, y5, y6, y7, y8, y9, y10, y11, y12, y13, y14, y15, y16, y17, y18, y19, y20, y21, y22, y23, y24, b11, h1, c, Bool.not_false]
  rw [e]
  rfl
end
end K02
end
section
set_option Elab.async false
set_option linter.all false
set_option maxRecDepth 100000
set_option maxHeartbeats 1000000
/-! k02: the disk: write, cut, remove, sync, names. -/
namespace K02
open PySem Lt
section
variable {H : Hq} {D kd nd wd k : Nat} {f : E} {s : Int} {kept now : Fl} {w : List Dd}
theorem me_f (m : Str) (v : Nat × Nat) (h : H[D]? = some (DO kd nd wd f s)) (hn : (([("_kept", .ref kd), ("_now", .ref nd), ("_waiting", .ref wd), ("_fuse", f), ("_steps", .int s)] : List (Str × E)).lookup m).isNone = true) (hm : mvs.lookup (("Disk" : Str), m) = some v) : methE (Pn k) H m (.ref D) = some v := by
  show (match H[D]? with | some (.ins c fs) => if (fs.lookup m).isNone then (Pn k).mv c m else none | _ => none) = _
  rw [h]
  show (if (List.lookup m _).isNone = true then mvs.lookup (("Disk" : Str), m) else none) = _
  rw [if_pos hn, hm]
variable (h : H[D]? = some (DO kd nd wd f s))
include h
theorem me_steps : methE (Pn k) H "steps" (.ref D) = some (9, 1) := me_f _ _ h rfl (by decide +kernel)
theorem me_fuse : methE (Pn k) H "set_fuse" (.ref D) = some (10, 2) := me_f _ _ h rfl (by decide +kernel)
theorem me_step : methE (Pn k) H "_step" (.ref D) = some (11, 1) := me_f _ _ h rfl (by decide +kernel)
theorem me_names : methE (Pn k) H "names" (.ref D) = some (12, 1) := me_f _ _ h rfl (by decide +kernel)
theorem me_size : methE (Pn k) H "size" (.ref D) = some (13, 2) := me_f _ _ h rfl (by decide +kernel)
theorem me_read : methE (Pn k) H "read" (.ref D) = some (14, 2) := me_f _ _ h rfl (by decide +kernel)
theorem me_wait : methE (Pn k) H "_wait" (.ref D) = some (15, 5) := me_f _ _ h rfl (by decide +kernel)
theorem me_write : methE (Pn k) H "write" (.ref D) = some (16, 4) := me_f _ _ h rfl (by decide +kernel)
theorem me_cut : methE (Pn k) H "cut" (.ref D) = some (17, 3) := me_f _ _ h rfl (by decide +kernel)
theorem me_remove : methE (Pn k) H "remove" (.ref D) = some (18, 2) := me_f _ _ h rfl (by decide +kernel)
theorem me_sync : methE (Pn k) H "sync" (.ref D) = some (19, 2) := me_f _ _ h rfl (by decide +kernel)
theorem me_lose : methE (Pn k) H "lose" (.ref D) = some (20, 2) := me_f _ _ h rfl (by decide +kernel)
theorem me_waits : methE (Pn k) H "waits" (.ref D) = some (21, 1) := me_f _ _ h rfl (by decide +kernel)
theorem me_copy : methE (Pn k) H "copy" (.ref D) = some (22, 1) := me_f _ _ h rfl (by decide +kernel)
end
theorem ar0 : (([] : List E).length + 1 = 1) = True := by simp
theorem ar1 (a : E) : ([a].length + 1 = 2) = True := by simp
theorem ar2 (a b : E) : ([a, b].length + 1 = 3) = True := by simp
theorem ar3 (a b c : E) : ([a, b, c].length + 1 = 4) = True := by simp
theorem ar4 (a b c d : E) : ([a, b, c, d].length + 1 = 5) = True := by simp
theorem ln0 : (([] : List E).length ≤ sizeLine) = True := eq_true (le_line (by simp))
theorem ln1 (a : E) : ([a].length ≤ sizeLine) = True := eq_true (le_line (by simp))
theorem ln2 (a b : E) : ([a, b].length ≤ sizeLine) = True := eq_true (le_line (by simp))
theorem ln4 (a b c d : E) : ([a, b, c, d].length ≤ sizeLine) = True := eq_true (le_line (by simp))
section
variable {H : Hq} {D kd nd wd k : Nat} {f : E} {s : Int} {kept now : Fl} {w : List Dd}
theorem getL_at {n : Nat} {xs : List E} (h : H[n]? = some (.lst xs)) : LH.get H (.pl n) = some xs := by
  show (match H[n]? with | some (.lst xs) => some xs | some (.rol xs) => some xs | _ => none) = _
  rw [h]
theorem wait_ok {d : Dd} (h : DiskAt H D kd nd wd kept now w f s) (hF : Fit now d) (h40 : (done now d).length ≤ 40) (hw : w.length ≤ 1000) :
    ∃ H', cl (k + 2) 15 [.ref D, .str d.k.s, .str d.n, .int (d.p : Int), .tup (nats d.r)] H = .ok .non H' ∧ DiskAt H' D kd H.length wd kept (done now d) (w ++ [d]) f s ∧ Fr D wd H H' := by
  rw [cl_succ (fn := f15) rfl rfl]
  show ∃ H', endR false H (b15.ev (Pn (k + 1)) [some (.ref D), some (.str d.k.s), some (.str d.n), some (.int (d.p : Int)), some (.tup (nats d.r))] H) = .ok .non H' ∧ _
  have h1 := at_now (k := k + 1) h.at_
  have h2 := done_ok (k := k) h.now hF h40
  rw [← par_cl] at h2
  have hA : DiskAt (H ++ [.dct (fe (done now d))]) D kd nd wd kept now w f s := h.app
  have h3 := st_now (k := k + 1) (v := H.length) hA.at_
  have hne : H.length ≠ D := by
    have := (List.getElem?_eq_some_iff.mp h.at_).1
    omega
  have hnew : (H ++ [Ob.dct (fe (done now d))])[H.length]? = some (.dct (fe (done now d))) := get_new
  have hB : DiskAt ((H ++ [Ob.dct (fe (done now d))]).set D (DO kd H.length wd f s)) D kd H.length wd kept (done now d) w f s :=
    ⟨set_at hA.at_, by rw [set_ne (dct_ne hA.at_ hA.kept)]; exact hA.kept, by rw [set_ne hne]; exact hnew, by rw [set_ne (lst_ne hA.at_ hA.wait)]; exact hA.wait⟩
  have h4 := at_wait (k := k + 1) hB.at_
  have h5 := getL_at hB.wait
  have h6 := hB.wait
  have lt : ((w.map Dd.e).length < sizeLine) = True := line_lt (by rw [List.length_map]; omega)
  have e : b15.ev (Pn (k + 1)) [some (.ref D), some (.str d.k.s), some (.str d.n), some (.int (d.p : Int)), some (.tup (nats d.r))] H = .nx [some (.ref D), some (.str d.k.s), some (.str d.n), some (.int (d.p : Int)), some (.tup (nats d.r))] (((H ++ [Ob.dct (fe (done now d))]).set D (DO kd H.length wd f s)).set wd (Ob.lst (w.map Dd.e ++ [d.e]))) := by
    simp -implicitDefEqProofs only [Stms.ev, Stm.ev, Ex.ev, Ex.evT, Exs.ev, Exs.evAnd, Exs.evOr, Exs.evTAnd, Exs.evTOr, Ox.ev, Ox.evT, Lx.ev, It.ev, v_c, v_bin, v_cmp, v_bl, v_isN, v_ntN, v_not, v_tru, v_asB, v_and, v_or, v_if, v_tup, v_nil, v_cons, v_sub, v_onone, v_osome, v_slice, v_call, v_glb, v_ofE, v_disp, v_cat, v_bi1, v_biL, v_isi, v_inS, v_sidx, v_join, v_subL, v_new, v_dct, v_lenSet, v_attr, v_meth, v_nox, v_dct0, v_dcp, v_dget, v_dpop, v_chain, v_tupE, v_min2, v_listT, v_sortS, v_neL, strE, refE, q_v_setI, q_v_setA, q_v_augA, q_v_parA, v_yes, v_itL, v_itA, v_itR1, v_itR2, v_lc, q_v_asg, q_v_par, q_v_setD, q_v_expr, q_v_app, q_v_if, q_v_for, q_v_ret, o_add, o_sub, c_lt, c_le, c_gt, c_ge, a_add, R.bind_ok, R.bind_ex, R.bind_bad, R.st_ok, R.st_ex, R.st_bad, RS.seq_nx, RS.seq_rt, RS.seq_ex, RS.seq_bk, RS.seq_ct, RS.seq_bad, optR_some, optR_none, Tg.set, setAll, asB, Lt.truthy, isNon, biLE, getL_tmp, getM_tmp, Option.isSome_some, reduceIte, if_true, if_false, Bool.false_eq_true, Option.map_some, w0, w1, w2, w3, w4, w5, w6, w7, w8, w9, w10, w11, w12, w13, w14, w15, w16, w17, w18, w19, w20, w21, w22, w23, w24, x0, x1, x2, x3, x4, x5, x6, x7, x8, x9, x10, x11, x12, x13, x14, x15, x16, x17, x18, x19, x20, x21, x22, x23, x24, z0, z1, z2, z3, z4, z5, z6, z7, z8, z9, z10, z11, z12, z13, z14, z15, z16, z17, z18, z19, z20, z21, z22, z23, z24, y0, y1, y2, y3, y4, y5, y6, y7, y8, y9, y10, y11, y12, y13, y14, y15, y16, y17, y18, y19, y20, y21, y22, y23, y24, b15, h1, h2, h3, h4, h5, ln4, h6, lt]
    rfl
  rw [e]
  refine ⟨_, rfl, ⟨?_, ?_, ?_, ?_⟩, ?_⟩
  · rw [set_ne (fun e => lst_ne hB.at_ hB.wait e.symm)]; exact hB.at_
  · rw [set_ne (ld_ne hB.kept hB.wait)]; exact hB.kept
  · rw [set_ne (ld_ne hB.now hB.wait)]; exact hB.now
  · rw [List.map_append]
    exact set_at hB.wait
  · exact (Fr.app.trans Fr.set (.inl rfl)).trans Fr.setW (.inl rfl)
theorem asBs_true {α : Type} : ∀ l : List α, asBs (l.map fun _ => E.bl true) = some (l.map fun _ => true)
  | [] => rfl
  | a :: l => by
    show (match asB (.bl true), asBs (l.map fun _ => E.bl true) with
      | some b, some bs => some (b :: bs)
      | _, _ => none) = _
    rw [asBs_true l]
    rfl
/-- a fuse that holds one step more -/
def Burns (f : E) : Prop := f = .non ∨ ∃ i : Int, f = .int i ∧ 0 < i
theorem write_ok {n : Str} {p : Nat} {r : List Nat} (h : DiskAt H D kd nd wd kept now w f s) (hf : Burns f) (hp : p ≤ (getF now n).length) (hr : ∀ a ∈ r, a ≤ 255) (hl : r.length ≤ 1000) (hF : Fit now ⟨.wr, n, p, r⟩) (h40 : (done now ⟨.wr, n, p, r⟩).length ≤ 40) (hw : w.length ≤ 1000) :
    ∃ H', cl (k + 3) 16 [.ref D, .str n, .int (p : Int), .tup (nats r)] H = .ok .non H' ∧ DiskAt H' D kd H.length wd kept (done now ⟨.wr, n, p, r⟩) (w ++ [⟨.wr, n, p, r⟩]) (burn f) (s + 1) ∧ Fr D wd H H' := by
  rw [cl_succ (fn := f16) rfl rfl]
  show ∃ H', endR false H (b16.ev (Pn (k + 2)) [some (.ref D), some (.str n), some (.int (p : Int)), some (.tup (nats r)), none, none] H) = .ok .non H' ∧ _
  have m1 := me_size (k := k + 2) h.at_
  have c1 := size_ok (k := k + 1) (n := n) h
  rw [← par_cl] at c1
  have d1 : decide ((0 : Int) ≤ (p : Int)) = true := decide_eq_true (by omega)
  have d2 : decide ((p : Int) ≤ ((getF now n).length : Int)) = true := decide_eq_true (by omega)
  have e1 : lcS none (nats r) (.name ⟨5, "a", ⟨50, 75, 50, 76⟩⟩) sYes (b16_0.ev (Pn (k + 2))) [some (.ref D), some (.str n), some (.int (p : Int)), some (.tup (nats r)), none, none] (nats r) [] H = .ok (r.map fun _ => .bl true) H := by
    have := lc_map (H := H) (g := fun (a : Nat) => E.int (a : Int)) (f := fun _ => E.bl true) (c := sYes) (e := b16_0.ev (Pn (k + 2))) (n := ⟨5, "a", ⟨50, 75, 50, 76⟩⟩) (ρ := [some (.ref D), some (.str n), some (.int (p : Int)), some (.tup (nats r)), none, none]) (all := nats r) (fun _ => rfl) r [] (fun a ha => by
      have q1 : decide ((0 : Int) ≤ (a : Int)) = true := decide_eq_true (by omega)
      have q2 : decide ((a : Int) ≤ 255) = true := decide_eq_true (by have := hr a ha; omega)
      simp -implicitDefEqProofs only [Stms.ev, Stm.ev, Ex.ev, Ex.evT, Exs.ev, Exs.evAnd, Exs.evOr, Exs.evTAnd, Exs.evTOr, Ox.ev, Ox.evT, Lx.ev, It.ev, v_c, v_bin, v_cmp, v_bl, v_isN, v_ntN, v_not, v_tru, v_asB, v_and, v_or, v_if, v_tup, v_nil, v_cons, v_sub, v_onone, v_osome, v_slice, v_call, v_glb, v_ofE, v_disp, v_cat, v_bi1, v_biL, v_isi, v_inS, v_sidx, v_join, v_subL, v_new, v_dct, v_lenSet, v_attr, v_meth, v_nox, v_dct0, v_dcp, v_dget, v_dpop, v_chain, v_tupE, v_min2, v_listT, v_sortS, v_neL, strE, refE, q_v_setI, q_v_setA, q_v_augA, q_v_parA, v_yes, v_itL, v_itA, v_itR1, v_itR2, v_lc, q_v_asg, q_v_par, q_v_setD, q_v_expr, q_v_app, q_v_if, q_v_for, q_v_ret, o_add, o_sub, c_lt, c_le, c_gt, c_ge, a_add, R.bind_ok, R.bind_ex, R.bind_bad, R.st_ok, R.st_ex, R.st_bad, RS.seq_nx, RS.seq_rt, RS.seq_ex, RS.seq_bk, RS.seq_ct, RS.seq_bad, optR_some, optR_none, Tg.set, setAll, asB, Lt.truthy, isNon, biLE, getL_tmp, getM_tmp, Option.isSome_some, reduceIte, if_true, if_false, Bool.false_eq_true, Option.map_some, w0, w1, w2, w3, w4, w5, w6, w7, w8, w9, w10, w11, w12, w13, w14, w15, w16, w17, w18, w19, w20, w21, w22, w23, w24, x0, x1, x2, x3, x4, x5, x6, x7, x8, x9, x10, x11, x12, x13, x14, x15, x16, x17, x18, x19, x20, x21, x22, x23, x24, z0, z1, z2, z3, z4, z5, z6, z7, z8, z9, z10, z11, z12, z13, z14, z15, z16, z17, z18, z19, z20, z21, z22, z23, z24, y0, y1, y2, y3, y4, y5, y6, y7, y8, y9, y10, y11, y12, y13, y14, y15, y16, y17, y18, y19, y20, y21, y22, y23, y24, b16_0, q1, q2]) (by simp; omega)
    rw [List.nil_append] at this
    exact this
  have asb := asBs_true r
  have all1 : (r.map fun _ => true).all id = true := by simp
  have m2 := me_step (k := k + 2) h.at_
  have c2 := step_ok (k := k + 1) h hf
  rw [← par_cl] at c2
  have hP : DiskAt (H.set D (DO kd nd wd (burn f) (s + 1))) D kd nd wd kept now w (burn f) (s + 1) := h.put
  have m3 := me_wait (k := k + 2) hP.at_
  obtain ⟨H', c3, hD, hFr⟩ := wait_ok (k := k) (d := ⟨.wr, n, p, r⟩) hP hF h40 hw
  rw [← par_cl] at c3
  have c3 : (Pn (k + 2)).cl 15 [.ref D, .str "write", .str n, .int (p : Int), .tup (nats r)] (H.set D (DO kd nd wd (burn f) (s + 1))) = .ok .non H' := c3
  have it : itE H (.tup (nats r)) = some (nats r, none) := rfl
  refine ⟨H', ?_, by rw [List.length_set] at hD; exact hD, Fr.set.trans hFr (.inl rfl)⟩
  have e : b16.ev (Pn (k + 2)) [some (.ref D), some (.str n), some (.int (p : Int)), some (.tup (nats r)), none, none] H = .nx [some (.ref D), some (.str n), some (.int (p : Int)), some (.tup (nats r)), none, none] H' := by
    simp -implicitDefEqProofs only [Stms.ev, Stm.ev, Ex.ev, Ex.evT, Exs.ev, Exs.evAnd, Exs.evOr, Exs.evTAnd, Exs.evTOr, Ox.ev, Ox.evT, Lx.ev, It.ev, v_c, v_bin, v_cmp, v_bl, v_isN, v_ntN, v_not, v_tru, v_asB, v_and, v_or, v_if, v_tup, v_nil, v_cons, v_sub, v_onone, v_osome, v_slice, v_call, v_glb, v_ofE, v_disp, v_cat, v_bi1, v_biL, v_isi, v_inS, v_sidx, v_join, v_subL, v_new, v_dct, v_lenSet, v_attr, v_meth, v_nox, v_dct0, v_dcp, v_dget, v_dpop, v_chain, v_tupE, v_min2, v_listT, v_sortS, v_neL, strE, refE, q_v_setI, q_v_setA, q_v_augA, q_v_parA, v_yes, v_itL, v_itA, v_itR1, v_itR2, v_lc, q_v_asg, q_v_par, q_v_setD, q_v_expr, q_v_app, q_v_if, q_v_for, q_v_ret, o_add, o_sub, c_lt, c_le, c_gt, c_ge, a_add, R.bind_ok, R.bind_ex, R.bind_bad, R.st_ok, R.st_ex, R.st_bad, RS.seq_nx, RS.seq_rt, RS.seq_ex, RS.seq_bk, RS.seq_ct, RS.seq_bad, optR_some, optR_none, Tg.set, setAll, asB, Lt.truthy, isNon, biLE, getL_tmp, getM_tmp, Option.isSome_some, reduceIte, if_true, if_false, Bool.false_eq_true, Option.map_some, w0, w1, w2, w3, w4, w5, w6, w7, w8, w9, w10, w11, w12, w13, w14, w15, w16, w17, w18, w19, w20, w21, w22, w23, w24, x0, x1, x2, x3, x4, x5, x6, x7, x8, x9, x10, x11, x12, x13, x14, x15, x16, x17, x18, x19, x20, x21, x22, x23, x24, z0, z1, z2, z3, z4, z5, z6, z7, z8, z9, z10, z11, z12, z13, z14, z15, z16, z17, z18, z19, z20, z21, z22, z23, z24, y0, y1, y2, y3, y4, y5, y6, y7, y8, y9, y10, y11, y12, y13, y14, y15, y16, y17, y18, y19, y20, y21, y22, y23, y24, b16, d1, m1, ar1, c1, d2, Bool.not_true, it, wipeR, List.map_cons, List.map_nil, e1, asb, all1, m2, ar0, c2, m3, ar4, c3]
  rw [e]
  rfl
theorem cut_ok {n : Str} {p : Nat} (h : DiskAt H D kd nd wd kept now w f s) (hf : Burns f) (hp : p ≤ (getF now n).length) (hF : Fit now ⟨.ct, n, p, []⟩) (h40 : (done now ⟨.ct, n, p, []⟩).length ≤ 40) (hw : w.length ≤ 1000) :
    ∃ H', cl (k + 3) 17 [.ref D, .str n, .int (p : Int)] H = .ok .non H' ∧ DiskAt H' D kd H.length wd kept (done now ⟨.ct, n, p, []⟩) (w ++ [⟨.ct, n, p, []⟩]) (burn f) (s + 1) ∧ Fr D wd H H' := by
  rw [cl_succ (fn := f17) rfl rfl]
  show ∃ H', endR false H (b17.ev (Pn (k + 2)) [some (.ref D), some (.str n), some (.int (p : Int))] H) = .ok .non H' ∧ _
  have m1 := me_size (k := k + 2) h.at_
  have c1 := size_ok (k := k + 1) (n := n) h
  rw [← par_cl] at c1
  have d1 : decide ((0 : Int) ≤ (p : Int)) = true := decide_eq_true (by omega)
  have d2 : decide ((p : Int) ≤ ((getF now n).length : Int)) = true := decide_eq_true (by omega)
  have m2 := me_step (k := k + 2) h.at_
  have c2 := step_ok (k := k + 1) h hf
  rw [← par_cl] at c2
  have hP : DiskAt (H.set D (DO kd nd wd (burn f) (s + 1))) D kd nd wd kept now w (burn f) (s + 1) := h.put
  have m3 := me_wait (k := k + 2) hP.at_
  obtain ⟨H', c3, hD, hFr⟩ := wait_ok (k := k) (d := ⟨.ct, n, p, []⟩) hP hF h40 hw
  rw [← par_cl] at c3
  have c3 : (Pn (k + 2)).cl 15 [.ref D, .str "cut", .str n, .int (p : Int), .tup []] (H.set D (DO kd nd wd (burn f) (s + 1))) = .ok .non H' := c3
  refine ⟨H', ?_, by rw [List.length_set] at hD; exact hD, Fr.set.trans hFr (.inl rfl)⟩
  have e : b17.ev (Pn (k + 2)) [some (.ref D), some (.str n), some (.int (p : Int))] H = .nx [some (.ref D), some (.str n), some (.int (p : Int))] H' := by
    simp -implicitDefEqProofs only [Stms.ev, Stm.ev, Ex.ev, Ex.evT, Exs.ev, Exs.evAnd, Exs.evOr, Exs.evTAnd, Exs.evTOr, Ox.ev, Ox.evT, Lx.ev, It.ev, v_c, v_bin, v_cmp, v_bl, v_isN, v_ntN, v_not, v_tru, v_asB, v_and, v_or, v_if, v_tup, v_nil, v_cons, v_sub, v_onone, v_osome, v_slice, v_call, v_glb, v_ofE, v_disp, v_cat, v_bi1, v_biL, v_isi, v_inS, v_sidx, v_join, v_subL, v_new, v_dct, v_lenSet, v_attr, v_meth, v_nox, v_dct0, v_dcp, v_dget, v_dpop, v_chain, v_tupE, v_min2, v_listT, v_sortS, v_neL, strE, refE, q_v_setI, q_v_setA, q_v_augA, q_v_parA, v_yes, v_itL, v_itA, v_itR1, v_itR2, v_lc, q_v_asg, q_v_par, q_v_setD, q_v_expr, q_v_app, q_v_if, q_v_for, q_v_ret, o_add, o_sub, c_lt, c_le, c_gt, c_ge, a_add, R.bind_ok, R.bind_ex, R.bind_bad, R.st_ok, R.st_ex, R.st_bad, RS.seq_nx, RS.seq_rt, RS.seq_ex, RS.seq_bk, RS.seq_ct, RS.seq_bad, optR_some, optR_none, Tg.set, setAll, asB, Lt.truthy, isNon, biLE, getL_tmp, getM_tmp, Option.isSome_some, reduceIte, if_true, if_false, Bool.false_eq_true, Option.map_some, w0, w1, w2, w3, w4, w5, w6, w7, w8, w9, w10, w11, w12, w13, w14, w15, w16, w17, w18, w19, w20, w21, w22, w23, w24, x0, x1, x2, x3, x4, x5, x6, x7, x8, x9, x10, x11, x12, x13, x14, x15, x16, x17, x18, x19, x20, x21, x22, x23, x24, z0, z1, z2, z3, z4, z5, z6, z7, z8, z9, z10, z11, z12, z13, z14, z15, z16, z17, z18, z19, z20, z21, z22, z23, z24, y0, y1, y2, y3, y4, y5, y6, y7, y8, y9, y10, y11, y12, y13, y14, y15, y16, y17, y18, y19, y20, y21, y22, y23, y24, b17, d1, m1, ar1, c1, d2, Bool.not_true, m2, ar0, c2, m3, ar4, ln0, c3]
  rw [e]
  rfl
theorem remove_ok {n : Str} (h : DiskAt H D kd nd wd kept now w f s) (hf : Burns f) (hF : Fit now ⟨.rm, n, 0, []⟩) (h40 : (done now ⟨.rm, n, 0, []⟩).length ≤ 40) (hw : w.length ≤ 1000) :
    ∃ H', cl (k + 3) 18 [.ref D, .str n] H = .ok .non H' ∧ DiskAt H' D kd H.length wd kept (done now ⟨.rm, n, 0, []⟩) (w ++ [⟨.rm, n, 0, []⟩]) (burn f) (s + 1) ∧ Fr D wd H H' := by
  rw [cl_succ (fn := f18) rfl rfl]
  show ∃ H', endR false H (b18.ev (Pn (k + 2)) [some (.ref D), some (.str n)] H) = .ok .non H' ∧ _
  have m2 := me_step (k := k + 2) h.at_
  have c2 := step_ok (k := k + 1) h hf
  rw [← par_cl] at c2
  have hP : DiskAt (H.set D (DO kd nd wd (burn f) (s + 1))) D kd nd wd kept now w (burn f) (s + 1) := h.put
  have m3 := me_wait (k := k + 2) hP.at_
  obtain ⟨H', c3, hD, hFr⟩ := wait_ok (k := k) (d := ⟨.rm, n, 0, []⟩) hP hF h40 hw
  rw [← par_cl] at c3
  have c3 : (Pn (k + 2)).cl 15 [.ref D, .str "remove", .str n, .int 0, .tup []] (H.set D (DO kd nd wd (burn f) (s + 1))) = .ok .non H' := c3
  refine ⟨H', ?_, by rw [List.length_set] at hD; exact hD, Fr.set.trans hFr (.inl rfl)⟩
  have e : b18.ev (Pn (k + 2)) [some (.ref D), some (.str n)] H = .nx [some (.ref D), some (.str n)] H' := by
    simp -implicitDefEqProofs only [Stms.ev, Stm.ev, Ex.ev, Ex.evT, Exs.ev, Exs.evAnd, Exs.evOr, Exs.evTAnd, Exs.evTOr, Ox.ev, Ox.evT, Lx.ev, It.ev, v_c, v_bin, v_cmp, v_bl, v_isN, v_ntN, v_not, v_tru, v_asB, v_and, v_or, v_if, v_tup, v_nil, v_cons, v_sub, v_onone, v_osome, v_slice, v_call, v_glb, v_ofE, v_disp, v_cat, v_bi1, v_biL, v_isi, v_inS, v_sidx, v_join, v_subL, v_new, v_dct, v_lenSet, v_attr, v_meth, v_nox, v_dct0, v_dcp, v_dget, v_dpop, v_chain, v_tupE, v_min2, v_listT, v_sortS, v_neL, strE, refE, q_v_setI, q_v_setA, q_v_augA, q_v_parA, v_yes, v_itL, v_itA, v_itR1, v_itR2, v_lc, q_v_asg, q_v_par, q_v_setD, q_v_expr, q_v_app, q_v_if, q_v_for, q_v_ret, o_add, o_sub, c_lt, c_le, c_gt, c_ge, a_add, R.bind_ok, R.bind_ex, R.bind_bad, R.st_ok, R.st_ex, R.st_bad, RS.seq_nx, RS.seq_rt, RS.seq_ex, RS.seq_bk, RS.seq_ct, RS.seq_bad, optR_some, optR_none, Tg.set, setAll, asB, Lt.truthy, isNon, biLE, getL_tmp, getM_tmp, Option.isSome_some, reduceIte, if_true, if_false, Bool.false_eq_true, Option.map_some, w0, w1, w2, w3, w4, w5, w6, w7, w8, w9, w10, w11, w12, w13, w14, w15, w16, w17, w18, w19, w20, w21, w22, w23, w24, x0, x1, x2, x3, x4, x5, x6, x7, x8, x9, x10, x11, x12, x13, x14, x15, x16, x17, x18, x19, x20, x21, x22, x23, x24, z0, z1, z2, z3, z4, z5, z6, z7, z8, z9, z10, z11, z12, z13, z14, z15, z16, z17, z18, z19, z20, z21, z22, z23, z24, y0, y1, y2, y3, y4, y5, y6, y7, y8, y9, y10, y11, y12, y13, y14, y15, y16, y17, y18, y19, y20, y21, y22, y23, y24, b18, m2, ar0, c2, m3, ar4, ln0, c3]
  rw [e]
  rfl
/-! ### what is refused -/
theorem write_gap {n : Str} {p : Nat} {r : List Nat} (h : DiskAt H D kd nd wd kept now w f s) (hp : (getF now n).length < p) : cl (k + 2) 16 [.ref D, .str n, .int (p : Int), .tup (nats r)] H = .ex 0 H := by
  rw [cl_succ (fn := f16) rfl rfl]
  show endR false H (b16.ev (Pn (k + 1)) [some (.ref D), some (.str n), some (.int (p : Int)), some (.tup (nats r)), none, none] H) = _
  have m1 := me_size (k := k + 1) h.at_
  have c1 := size_ok (k := k) (n := n) h
  rw [← par_cl] at c1
  have d1 : decide ((0 : Int) ≤ (p : Int)) = true := decide_eq_true (by omega)
  have d2 : decide ((p : Int) ≤ ((getF now n).length : Int)) = false := decide_eq_false (by omega)
  have e : b16.ev (Pn (k + 1)) [some (.ref D), some (.str n), some (.int (p : Int)), some (.tup (nats r)), none, none] H = .ex 0 [some (.ref D), some (.str n), some (.int (p : Int)), some (.tup (nats r)), none, none] H := by
    simp -implicitDefEqProofs only [Stms.ev, Stm.ev, Ex.ev, Ex.evT, Exs.ev, Exs.evAnd, Exs.evOr, Exs.evTAnd, Exs.evTOr, Ox.ev, Ox.evT, Lx.ev, It.ev, v_c, v_bin, v_cmp, v_bl, v_isN, v_ntN, v_not, v_tru, v_asB, v_and, v_or, v_if, v_tup, v_nil, v_cons, v_sub, v_onone, v_osome, v_slice, v_call, v_glb, v_ofE, v_disp, v_cat, v_bi1, v_biL, v_isi, v_inS, v_sidx, v_join, v_subL, v_new, v_dct, v_lenSet, v_attr, v_meth, v_nox, v_dct0, v_dcp, v_dget, v_dpop, v_chain, v_tupE, v_min2, v_listT, v_sortS, v_neL, strE, refE, q_v_setI, q_v_setA, q_v_augA, q_v_parA, v_yes, v_itL, v_itA, v_itR1, v_itR2, v_lc, q_v_asg, q_v_par, q_v_setD, q_v_expr, q_v_app, q_v_if, q_v_for, q_v_ret, o_add, o_sub, c_lt, c_le, c_gt, c_ge, a_add, R.bind_ok, R.bind_ex, R.bind_bad, R.st_ok, R.st_ex, R.st_bad, RS.seq_nx, RS.seq_rt, RS.seq_ex, RS.seq_bk, RS.seq_ct, RS.seq_bad, optR_some, optR_none, Tg.set, setAll, asB, Lt.truthy, isNon, biLE, getL_tmp, getM_tmp, Option.isSome_some, reduceIte, if_true, if_false, Bool.false_eq_true, Option.map_some, w0, w1, w2, w3, w4, w5, w6, w7, w8, w9, w10, w11, w12, w13, w14, w15, w16, w17, w18, w19, w20, w21, w22, w23, w24, x0, x1, x2, x3, x4, x5, x6, x7, x8, x9, x10, x11, x12, x13, x14, x15, x16, x17, x18, x19, x20, x21, x22, x23, x24, z0, z1, z2, z3, z4, z5, z6, z7, z8, z9, z10, z11, z12, z13, z14, z15, z16, z17, z18, z19, z20, z21, z22, z23, z24, y0, y1, y2, y3, y4, y5, y6, y7, y8, y9, y10, y11, y12, y13, y14, y15, y16, y17, y18, y19, y20, y21, y22, y23, y24, b16, d1, m1, ar1, c1, d2, Bool.not_false]
  rw [e]
  rfl
theorem cut_gap {n : Str} {p : Nat} (h : DiskAt H D kd nd wd kept now w f s) (hp : (getF now n).length < p) : cl (k + 2) 17 [.ref D, .str n, .int (p : Int)] H = .ex 0 H := by
  rw [cl_succ (fn := f17) rfl rfl]
  show endR false H (b17.ev (Pn (k + 1)) [some (.ref D), some (.str n), some (.int (p : Int))] H) = _
  have m1 := me_size (k := k + 1) h.at_
  have c1 := size_ok (k := k) (n := n) h
  rw [← par_cl] at c1
  have d1 : decide ((0 : Int) ≤ (p : Int)) = true := decide_eq_true (by omega)
  have d2 : decide ((p : Int) ≤ ((getF now n).length : Int)) = false := decide_eq_false (by omega)
  have e : b17.ev (Pn (k + 1)) [some (.ref D), some (.str n), some (.int (p : Int))] H = .ex 0 [some (.ref D), some (.str n), some (.int (p : Int))] H := by
    simp -implicitDefEqProofs only [Stms.ev, Stm.ev, Ex.ev, Ex.evT, Exs.ev, Exs.evAnd, Exs.evOr, Exs.evTAnd, Exs.evTOr, Ox.ev, Ox.evT, Lx.ev, It.ev, v_c, v_bin, v_cmp, v_bl, v_isN, v_ntN, v_not, v_tru, v_asB, v_and, v_or, v_if, v_tup, v_nil, v_cons, v_sub, v_onone, v_osome, v_slice, v_call, v_glb, v_ofE, v_disp, v_cat, v_bi1, v_biL, v_isi, v_inS, v_sidx, v_join, v_subL, v_new, v_dct, v_lenSet, v_attr, v_meth, v_nox, v_dct0, v_dcp, v_dget, v_dpop, v_chain, v_tupE, v_min2, v_listT, v_sortS, v_neL, strE, refE, q_v_setI, q_v_setA, q_v_augA, q_v_parA, v_yes, v_itL, v_itA, v_itR1, v_itR2, v_lc, q_v_asg, q_v_par, q_v_setD, q_v_expr, q_v_app, q_v_if, q_v_for, q_v_ret, o_add, o_sub, c_lt, c_le, c_gt, c_ge, a_add, R.bind_ok, R.bind_ex, R.bind_bad, R.st_ok, R.st_ex, R.st_bad, RS.seq_nx, RS.seq_rt, RS.seq_ex, RS.seq_bk, RS.seq_ct, RS.seq_bad, optR_some, optR_none, Tg.set, setAll, asB, Lt.truthy, isNon, biLE, getL_tmp, getM_tmp, Option.isSome_some, reduceIte, if_true, if_false, Bool.false_eq_true, Option.map_some, w0, w1, w2, w3, w4, w5, w6, w7, w8, w9, w10, w11, w12, w13, w14, w15, w16, w17, w18, w19, w20, w21, w22, w23, w24, x0, x1, x2, x3, x4, x5, x6, x7, x8, x9, x10, x11, x12, x13, x14, x15, x16, x17, x18, x19, x20, x21, x22, x23, x24, z0, z1, z2, z3, z4, z5, z6, z7, z8, z9, z10, z11, z12, z13, z14, z15, z16, z17, z18, z19, z20, z21, z22, z23, z24, y0, y1, y2, y3, y4, y5, y6, y7, y8, y9, y10, y11, y12, y13, y14, y15, y16, y17, y18, y19, y20, y21, y22, y23, y24, b17, d1, m1, ar1, c1, d2, Bool.not_false]
  rw [e]
  rfl
theorem write_256 {n : Str} (h : DiskAt H D kd nd wd kept now w f s) : cl (k + 2) 16 [.ref D, .str n, .int 0, .tup [.int 256]] H = .ex 0 H := by
  rw [cl_succ (fn := f16) rfl rfl]
  show endR false H (b16.ev (Pn (k + 1)) [some (.ref D), some (.str n), some (.int 0), some (.tup [.int 256]), none, none] H) = _
  have m1 := me_size (k := k + 1) h.at_
  have c1 := size_ok (k := k) (n := n) h
  rw [← par_cl] at c1
  have d1 : decide ((0 : Int) ≤ 0) = true := by decide
  have d2 : decide ((0 : Int) ≤ ((getF now n).length : Int)) = true := decide_eq_true (by omega)
  have e1 : lcS none [E.int 256] (.name ⟨5, "a", ⟨50, 75, 50, 76⟩⟩) sYes (b16_0.ev (Pn (k + 1))) [some (.ref D), some (.str n), some (.int 0), some (.tup [.int 256]), none, none] [E.int 256] [] H = .ok [.bl false] H := by
    rw [lc_turn (ρ1 := [some (.ref D), some (.str n), some (.int 0), some (.tup [.int 256]), none, some (.int 256)]) (y := .bl false) (H2 := H) rfl rfl rfl (by
      have q1 : decide ((0 : Int) ≤ 256) = true := by decide
      have q2 : decide ((256 : Int) ≤ 255) = false := by decide
      simp -implicitDefEqProofs only [Stms.ev, Stm.ev, Ex.ev, Ex.evT, Exs.ev, Exs.evAnd, Exs.evOr, Exs.evTAnd, Exs.evTOr, Ox.ev, Ox.evT, Lx.ev, It.ev, v_c, v_bin, v_cmp, v_bl, v_isN, v_ntN, v_not, v_tru, v_asB, v_and, v_or, v_if, v_tup, v_nil, v_cons, v_sub, v_onone, v_osome, v_slice, v_call, v_glb, v_ofE, v_disp, v_cat, v_bi1, v_biL, v_isi, v_inS, v_sidx, v_join, v_subL, v_new, v_dct, v_lenSet, v_attr, v_meth, v_nox, v_dct0, v_dcp, v_dget, v_dpop, v_chain, v_tupE, v_min2, v_listT, v_sortS, v_neL, strE, refE, q_v_setI, q_v_setA, q_v_augA, q_v_parA, v_yes, v_itL, v_itA, v_itR1, v_itR2, v_lc, q_v_asg, q_v_par, q_v_setD, q_v_expr, q_v_app, q_v_if, q_v_for, q_v_ret, o_add, o_sub, c_lt, c_le, c_gt, c_ge, a_add, R.bind_ok, R.bind_ex, R.bind_bad, R.st_ok, R.st_ex, R.st_bad, RS.seq_nx, RS.seq_rt, RS.seq_ex, RS.seq_bk, RS.seq_ct, RS.seq_bad, optR_some, optR_none, Tg.set, setAll, asB, Lt.truthy, isNon, biLE, getL_tmp, getM_tmp, Option.isSome_some, reduceIte, if_true, if_false, Bool.false_eq_true, Option.map_some, w0, w1, w2, w3, w4, w5, w6, w7, w8, w9, w10, w11, w12, w13, w14, w15, w16, w17, w18, w19, w20, w21, w22, w23, w24, x0, x1, x2, x3, x4, x5, x6, x7, x8, x9, x10, x11, x12, x13, x14, x15, x16, x17, x18, x19, x20, x21, x22, x23, x24, z0, z1, z2, z3, z4, z5, z6, z7, z8, z9, z10, z11, z12, z13, z14, z15, z16, z17, z18, z19, z20, z21, z22, z23, z24, y0, y1, y2, y3, y4, y5, y6, y7, y8, y9, y10, y11, y12, y13, y14, y15, y16, y17, y18, y19, y20, y21, y22, y23, y24, b16_0, q1, q2]) (by simp), lc_end rfl]
    rfl
  have asb : asBs [E.bl false] = some [false] := rfl
  have all1 : ([false] : List Bool).all id = false := rfl
  have it : itE H (.tup [.int 256]) = some ([.int 256], none) := rfl
  have e : b16.ev (Pn (k + 1)) [some (.ref D), some (.str n), some (.int 0), some (.tup [.int 256]), none, none] H = .ex 0 [some (.ref D), some (.str n), some (.int 0), some (.tup [.int 256]), none, none] H := by
    simp -implicitDefEqProofs only [Stms.ev, Stm.ev, Ex.ev, Ex.evT, Exs.ev, Exs.evAnd, Exs.evOr, Exs.evTAnd, Exs.evTOr, Ox.ev, Ox.evT, Lx.ev, It.ev, v_c, v_bin, v_cmp, v_bl, v_isN, v_ntN, v_not, v_tru, v_asB, v_and, v_or, v_if, v_tup, v_nil, v_cons, v_sub, v_onone, v_osome, v_slice, v_call, v_glb, v_ofE, v_disp, v_cat, v_bi1, v_biL, v_isi, v_inS, v_sidx, v_join, v_subL, v_new, v_dct, v_lenSet, v_attr, v_meth, v_nox, v_dct0, v_dcp, v_dget, v_dpop, v_chain, v_tupE, v_min2, v_listT, v_sortS, v_neL, strE, refE, q_v_setI, q_v_setA, q_v_augA, q_v_parA, v_yes, v_itL, v_itA, v_itR1, v_itR2, v_lc, q_v_asg, q_v_par, q_v_setD, q_v_expr, q_v_app, q_v_if, q_v_for, q_v_ret, o_add, o_sub, c_lt, c_le, c_gt, c_ge, a_add, R.bind_ok, R.bind_ex, R.bind_bad, R.st_ok, R.st_ex, R.st_bad, RS.seq_nx, RS.seq_rt, RS.seq_ex, RS.seq_bk, RS.seq_ct, RS.seq_bad, optR_some, optR_none, Tg.set, setAll, asB, Lt.truthy, isNon, biLE, getL_tmp, getM_tmp, Option.isSome_some, reduceIte, if_true, if_false, Bool.false_eq_true, Option.map_some, w0, w1, w2, w3, w4, w5, w6, w7, w8, w9, w10, w11, w12, w13, w14, w15, w16, w17, w18, w19, w20, w21, w22, w23, w24, x0, x1, x2, x3, x4, x5, x6, x7, x8, x9, x10, x11, x12, x13, x14, x15, x16, x17, x18, x19, x20, x21, x22, x23, x24, z0, z1, z2, z3, z4, z5, z6, z7, z8, z9, z10, z11, z12, z13, z14, z15, z16, z17, z18, z19, z20, z21, z22, z23, z24, y0, y1, y2, y3, y4, y5, y6, y7, y8, y9, y10, y11, y12, y13, y14, y15, y16, y17, y18, y19, y20, y21, y22, y23, y24, b16, d1, m1, ar1, c1, d2, Bool.not_true, Bool.not_false, it, wipeR, List.map_cons, List.map_nil, e1, asb, all1]
  rw [e]
  rfl
theorem write_dark {n : Str} {p : Nat} {r : List Nat} {i : Int} (h : DiskAt H D kd nd wd kept now w (.int i) s) (hi : i ≤ 0) (hp : p ≤ (getF now n).length) (hr : ∀ a ∈ r, a ≤ 255) (hl : r.length ≤ 1000) : cl (k + 2) 16 [.ref D, .str n, .int (p : Int), .tup (nats r)] H = .ex 1 H := by
  rw [cl_succ (fn := f16) rfl rfl]
  show endR false H (b16.ev (Pn (k + 1)) [some (.ref D), some (.str n), some (.int (p : Int)), some (.tup (nats r)), none, none] H) = _
  have m1 := me_size (k := k + 1) h.at_
  have c1 := size_ok (k := k) (n := n) h
  rw [← par_cl] at c1
  have d1 : decide ((0 : Int) ≤ (p : Int)) = true := decide_eq_true (by omega)
  have d2 : decide ((p : Int) ≤ ((getF now n).length : Int)) = true := decide_eq_true (by omega)
  have e1 : lcS none (nats r) (.name ⟨5, "a", ⟨50, 75, 50, 76⟩⟩) sYes (b16_0.ev (Pn (k + 1))) [some (.ref D), some (.str n), some (.int (p : Int)), some (.tup (nats r)), none, none] (nats r) [] H = .ok (r.map fun _ => .bl true) H := by
    have := lc_map (H := H) (g := fun (a : Nat) => E.int (a : Int)) (f := fun _ => E.bl true) (c := sYes) (e := b16_0.ev (Pn (k + 1))) (n := ⟨5, "a", ⟨50, 75, 50, 76⟩⟩) (ρ := [some (.ref D), some (.str n), some (.int (p : Int)), some (.tup (nats r)), none, none]) (all := nats r) (fun _ => rfl) r [] (fun a ha => by
      have q1 : decide ((0 : Int) ≤ (a : Int)) = true := decide_eq_true (by omega)
      have q2 : decide ((a : Int) ≤ 255) = true := decide_eq_true (by have := hr a ha; omega)
      simp -implicitDefEqProofs only [Stms.ev, Stm.ev, Ex.ev, Ex.evT, Exs.ev, Exs.evAnd, Exs.evOr, Exs.evTAnd, Exs.evTOr, Ox.ev, Ox.evT, Lx.ev, It.ev, v_c, v_bin, v_cmp, v_bl, v_isN, v_ntN, v_not, v_tru, v_asB, v_and, v_or, v_if, v_tup, v_nil, v_cons, v_sub, v_onone, v_osome, v_slice, v_call, v_glb, v_ofE, v_disp, v_cat, v_bi1, v_biL, v_isi, v_inS, v_sidx, v_join, v_subL, v_new, v_dct, v_lenSet, v_attr, v_meth, v_nox, v_dct0, v_dcp, v_dget, v_dpop, v_chain, v_tupE, v_min2, v_listT, v_sortS, v_neL, strE, refE, q_v_setI, q_v_setA, q_v_augA, q_v_parA, v_yes, v_itL, v_itA, v_itR1, v_itR2, v_lc, q_v_asg, q_v_par, q_v_setD, q_v_expr, q_v_app, q_v_if, q_v_for, q_v_ret, o_add, o_sub, c_lt, c_le, c_gt, c_ge, a_add, R.bind_ok, R.bind_ex, R.bind_bad, R.st_ok, R.st_ex, R.st_bad, RS.seq_nx, RS.seq_rt, RS.seq_ex, RS.seq_bk, RS.seq_ct, RS.seq_bad, optR_some, optR_none, Tg.set, setAll, asB, Lt.truthy, isNon, biLE, getL_tmp, getM_tmp, Option.isSome_some, reduceIte, if_true, if_false, Bool.false_eq_true, Option.map_some, w0, w1, w2, w3, w4, w5, w6, w7, w8, w9, w10, w11, w12, w13, w14, w15, w16, w17, w18, w19, w20, w21, w22, w23, w24, x0, x1, x2, x3, x4, x5, x6, x7, x8, x9, x10, x11, x12, x13, x14, x15, x16, x17, x18, x19, x20, x21, x22, x23, x24, z0, z1, z2, z3, z4, z5, z6, z7, z8, z9, z10, z11, z12, z13, z14, z15, z16, z17, z18, z19, z20, z21, z22, z23, z24, y0, y1, y2, y3, y4, y5, y6, y7, y8, y9, y10, y11, y12, y13, y14, y15, y16, y17, y18, y19, y20, y21, y22, y23, y24, b16_0, q1, q2]) (by simp; omega)
    rw [List.nil_append] at this
    exact this
  have asb := asBs_true r
  have all1 : (r.map fun _ => true).all id = true := by simp
  have m2 := me_step (k := k + 1) h.at_
  have c2 := step_ex (k := k) h hi
  rw [← par_cl] at c2
  have it : itE H (.tup (nats r)) = some (nats r, none) := rfl
  have e : b16.ev (Pn (k + 1)) [some (.ref D), some (.str n), some (.int (p : Int)), some (.tup (nats r)), none, none] H = .ex 1 [some (.ref D), some (.str n), some (.int (p : Int)), some (.tup (nats r)), none, none] H := by
    simp -implicitDefEqProofs only [Stms.ev, Stm.ev, Ex.ev, Ex.evT, Exs.ev, Exs.evAnd, Exs.evOr, Exs.evTAnd, Exs.evTOr, Ox.ev, Ox.evT, Lx.ev, It.ev, v_c, v_bin, v_cmp, v_bl, v_isN, v_ntN, v_not, v_tru, v_asB, v_and, v_or, v_if, v_tup, v_nil, v_cons, v_sub, v_onone, v_osome, v_slice, v_call, v_glb, v_ofE, v_disp, v_cat, v_bi1, v_biL, v_isi, v_inS, v_sidx, v_join, v_subL, v_new, v_dct, v_lenSet, v_attr, v_meth, v_nox, v_dct0, v_dcp, v_dget, v_dpop, v_chain, v_tupE, v_min2, v_listT, v_sortS, v_neL, strE, refE, q_v_setI, q_v_setA, q_v_augA, q_v_parA, v_yes, v_itL, v_itA, v_itR1, v_itR2, v_lc, q_v_asg, q_v_par, q_v_setD, q_v_expr, q_v_app, q_v_if, q_v_for, q_v_ret, o_add, o_sub, c_lt, c_le, c_gt, c_ge, a_add, R.bind_ok, R.bind_ex, R.bind_bad, R.st_ok, R.st_ex, R.st_bad, RS.seq_nx, RS.seq_rt, RS.seq_ex, RS.seq_bk, RS.seq_ct, RS.seq_bad, optR_some, optR_none, Tg.set, setAll, asB, Lt.truthy, isNon, biLE, getL_tmp, getM_tmp, Option.isSome_some, reduceIte, if_true, if_false, Bool.false_eq_true, Option.map_some, w0, w1, w2, w3, w4, w5, w6, w7, w8, w9, w10, w11, w12, w13, w14, w15, w16, w17, w18, w19, w20, w21, w22, w23, w24, x0, x1, x2, x3, x4, x5, x6, x7, x8, x9, x10, x11, x12, x13, x14, x15, x16, x17, x18, x19, x20, x21, x22, x23, x24, z0, z1, z2, z3, z4, z5, z6, z7, z8, z9, z10, z11, z12, z13, z14, z15, z16, z17, z18, z19, z20, z21, z22, z23, z24, y0, y1, y2, y3, y4, y5, y6, y7, y8, y9, y10, y11, y12, y13, y14, y15, y16, y17, y18, y19, y20, y21, y22, y23, y24, b16, d1, m1, ar1, c1, d2, Bool.not_true, it, wipeR, List.map_cons, List.map_nil, e1, asb, all1, m2, ar0, c2]
  rw [e]
  rfl
theorem sync_dark {n : Str} {i : Int} (h : DiskAt H D kd nd wd kept now w (.int i) s) (hi : i ≤ 0) : cl (k + 2) 19 [.ref D, .str n] H = .ex 1 H := by
  rw [cl_succ (fn := f19) rfl rfl]
  show endR false H (b19.ev (Pn (k + 1)) [some (.ref D), some (.str n), none, none] H) = _
  have m2 := me_step (k := k + 1) h.at_
  have c2 := step_ex (k := k) h hi
  rw [← par_cl] at c2
  have e : b19.ev (Pn (k + 1)) [some (.ref D), some (.str n), none, none] H = .ex 1 [some (.ref D), some (.str n), none, none] H := by
    simp -implicitDefEqProofs only [Stms.ev, Stm.ev, Ex.ev, Ex.evT, Exs.ev, Exs.evAnd, Exs.evOr, Exs.evTAnd, Exs.evTOr, Ox.ev, Ox.evT, Lx.ev, It.ev, v_c, v_bin, v_cmp, v_bl, v_isN, v_ntN, v_not, v_tru, v_asB, v_and, v_or, v_if, v_tup, v_nil, v_cons, v_sub, v_onone, v_osome, v_slice, v_call, v_glb, v_ofE, v_disp, v_cat, v_bi1, v_biL, v_isi, v_inS, v_sidx, v_join, v_subL, v_new, v_dct, v_lenSet, v_attr, v_meth, v_nox, v_dct0, v_dcp, v_dget, v_dpop, v_chain, v_tupE, v_min2, v_listT, v_sortS, v_neL, strE, refE, q_v_setI, q_v_setA, q_v_augA, q_v_parA, v_yes, v_itL, v_itA, v_itR1, v_itR2, v_lc, q_v_asg, q_v_par, q_v_setD, q_v_expr, q_v_app, q_v_if, q_v_for, q_v_ret, o_add, o_sub, c_lt, c_le, c_gt, c_ge, a_add, R.bind_ok, R.bind_ex, R.bind_bad, R.st_ok, R.st_ex, R.st_bad, RS.seq_nx, RS.seq_rt, RS.seq_ex, RS.seq_bk, RS.seq_ct, RS.seq_bad, optR_some, optR_none, Tg.set, setAll, asB, Lt.truthy, isNon, biLE, getL_tmp, getM_tmp, Option.isSome_some, reduceIte, if_true, if_false, Bool.false_eq_true, Option.map_some, w0, w1, w2, w3, w4, w5, w6, w7, w8, w9, w10, w11, w12, w13, w14, w15, w16, w17, w18, w19, w20, w21, w22, w23, w24, x0, x1, x2, x3, x4, x5, x6, x7, x8, x9, x10, x11, x12, x13, x14, x15, x16, x17, x18, x19, x20, x21, x22, x23, x24, z0, z1, z2, z3, z4, z5, z6, z7, z8, z9, z10, z11, z12, z13, z14, z15, z16, z17, z18, z19, z20, z21, z22, z23, z24, y0, y1, y2, y3, y4, y5, y6, y7, y8, y9, y10, y11, y12, y13, y14, y15, y16, y17, y18, y19, y20, y21, y22, y23, y24, b19, m2, ar0, c2]
  rw [e]
  rfl
theorem names_ok (h : DiskAt H D kd nd wd kept now w f s) (hn : now.length < 64) : cl (k + 1) 12 [.ref D] H = .ok (.ref H.length) (H ++ [.lst ((keysOf (fe now)).map E.str)]) := by
  rw [cl_succ (fn := f12) rfl rfl]
  show endR false H (b12.ev (Pn k) [some (.ref D)] H) = _
  have h1 := at_now (k := k) h.at_
  have h2 := h.now
  have h3 : ((fe now).length < 64) = True := by rw [fe_len]; exact eq_true hn
  have e : b12.ev (Pn k) [some (.ref D)] H = .rt (.ref H.length) (H ++ [.lst ((keysOf (fe now)).map E.str)]) := by
    simp -implicitDefEqProofs only [Stms.ev, Stm.ev, Ex.ev, Ex.evT, Exs.ev, Exs.evAnd, Exs.evOr, Exs.evTAnd, Exs.evTOr, Ox.ev, Ox.evT, Lx.ev, It.ev, v_c, v_bin, v_cmp, v_bl, v_isN, v_ntN, v_not, v_tru, v_asB, v_and, v_or, v_if, v_tup, v_nil, v_cons, v_sub, v_onone, v_osome, v_slice, v_call, v_glb, v_ofE, v_disp, v_cat, v_bi1, v_biL, v_isi, v_inS, v_sidx, v_join, v_subL, v_new, v_dct, v_lenSet, v_attr, v_meth, v_nox, v_dct0, v_dcp, v_dget, v_dpop, v_chain, v_tupE, v_min2, v_listT, v_sortS, v_neL, strE, refE, q_v_setI, q_v_setA, q_v_augA, q_v_parA, v_yes, v_itL, v_itA, v_itR1, v_itR2, v_lc, q_v_asg, q_v_par, q_v_setD, q_v_expr, q_v_app, q_v_if, q_v_for, q_v_ret, o_add, o_sub, c_lt, c_le, c_gt, c_ge, a_add, R.bind_ok, R.bind_ex, R.bind_bad, R.st_ok, R.st_ex, R.st_bad, RS.seq_nx, RS.seq_rt, RS.seq_ex, RS.seq_bk, RS.seq_ct, RS.seq_bad, optR_some, optR_none, Tg.set, setAll, asB, Lt.truthy, isNon, biLE, getL_tmp, getM_tmp, Option.isSome_some, reduceIte, if_true, if_false, Bool.false_eq_true, Option.map_some, w0, w1, w2, w3, w4, w5, w6, w7, w8, w9, w10, w11, w12, w13, w14, w15, w16, w17, w18, w19, w20, w21, w22, w23, w24, x0, x1, x2, x3, x4, x5, x6, x7, x8, x9, x10, x11, x12, x13, x14, x15, x16, x17, x18, x19, x20, x21, x22, x23, x24, z0, z1, z2, z3, z4, z5, z6, z7, z8, z9, z10, z11, z12, z13, z14, z15, z16, z17, z18, z19, z20, z21, z22, z23, z24, y0, y1, y2, y3, y4, y5, y6, y7, y8, y9, y10, y11, y12, y13, y14, y15, y16, y17, y18, y19, y20, y21, y22, y23, y24, b12, h1, h2, h3]
  rw [e]
  rfl
end
end K02
end
section
set_option Elab.async false
set_option linter.all false
set_option maxRecDepth 100000
set_option maxHeartbeats 1000000
/-! k02: names, pieces. -/
namespace K02
open PySem Lt
def names4 : List Str := ["a", "b", "c", "z"]
def keysL (fl : Fl) : List Str := fl.map (·.1)
theorem nodup_le : ∀ (r l : List Str), l.Nodup → (∀ x ∈ l, x ∈ r) → l.length ≤ r.length
  | [], l, _, h => by
    cases l with
    | nil => simp
    | cons a l => exact absurd (h a List.mem_cons_self) List.not_mem_nil
  | a :: r, l, hn, h => by
    have h1 := nodup_le r (l.filter fun x => decide (x ≠ a)) (hn.filter _) fun x hx => by
      rw [List.mem_filter] at hx
      have hxa : x ≠ a := by simpa using hx.2
      rcases List.mem_cons.mp (h x hx.1) with e | e
      · exact absurd e hxa
      · exact e
    have h2 : l.length ≤ (l.filter fun x => decide (x ≠ a)).length + 1 := by
      clear h h1
      induction l with
      | nil => simp
      | cons b l ih =>
        rw [List.nodup_cons] at hn
        by_cases e : b = a
        · subst e
          rw [List.filter_cons_of_neg (by simp)]
          have : l.filter (fun x => decide (x ≠ b)) = l := by
            rw [List.filter_eq_self]
            intro x hx
            rw [decide_eq_true_eq]
            intro e
            exact hn.1 (e ▸ hx)
          rw [this]
          simp
        · rw [List.filter_cons_of_pos (by simpa using e)]
          have := ih hn.2
          simp only [List.length_cons]
          omega
    simp only [List.length_cons]
    omega
/-- what is kept: names of four, each once; sizes -/
structure Gd (fl : Fl) (M : Nat) : Prop where
  nd : (keysL fl).Nodup
  sub : ∀ n ∈ keysL fl, n ∈ names4
  len : ∀ n, (getF fl n).length ≤ M
theorem Gd.few {fl : Fl} {M : Nat} (h : Gd fl M) : fl.length ≤ 4 := by
  have := nodup_le names4 (keysL fl) h.nd h.sub
  unfold keysL at this
  rw [List.length_map] at this
  exact this
theorem Gd.bd {fl : Fl} {M : Nat} (h : Gd fl M) : Bd fl 4 M := ⟨h.few, h.len⟩
theorem Gd.mono {fl : Fl} {M M2 : Nat} (h : Gd fl M) (hm : M ≤ M2) : Gd fl M2 := ⟨h.nd, h.sub, fun n => Nat.le_trans (h.len n) hm⟩
theorem keys_put (fl : Fl) (n : Str) (v : List Nat) : keysL (putL fl n v) = if (fl.any fun kv => decide (kv.1 = n)) = true then keysL fl else keysL fl ++ [n] := by
  unfold putL
  split
  · unfold keysL
    rw [List.map_map]
    refine List.map_congr_left fun kv _ => ?_
    show (if kv.1 = n then (kv.1, v) else kv).1 = kv.1
    split <;> rfl
  · unfold keysL
    rw [List.map_append]
    rfl
theorem Gd.nil {M : Nat} : Gd [] M := ⟨List.nodup_nil, fun n h => (by cases h), fun n => (by show ([] : List Nat).length ≤ M; simp)⟩
theorem Gd.done {fl : Fl} {M R : Nat} {d : Dd} (h : Gd fl M) (hn : d.n ∈ names4) (hr : d.r.length ≤ R) : Gd (K02.done fl d) (M + R) := by
  have hlen := (h.bd.done hr).len
  have hp : ∀ v, (keysL (putL fl d.n v)).Nodup ∧ ∀ n ∈ keysL (putL fl d.n v), n ∈ names4 := by
    intro v
    rw [keys_put]
    split
    · exact ⟨h.nd, h.sub⟩
    · rename_i ha
      refine ⟨?_, fun n hh => ?_⟩
      · rw [List.nodup_append]
        refine ⟨h.nd, List.pairwise_singleton _ _, fun a ha2 b hb => ?_⟩
        have eb : b = d.n := by simpa using hb
        subst eb
        intro e
        subst e
        apply ha
        rw [List.any_eq_true]
        unfold keysL at ha2
        obtain ⟨kv, hkv, e2⟩ := List.mem_map.mp ha2
        exact ⟨kv, hkv, by simpa using e2⟩
      · rcases List.mem_append.mp hh with hh | hh
        · exact h.sub n hh
        · have : n = d.n := by simpa using hh
          rw [this]; exact hn
  have hd : (keysL (dropL fl d.n)).Nodup ∧ ∀ n ∈ keysL (dropL fl d.n), n ∈ names4 := by
    have hs : (keysL (dropL fl d.n)).Sublist (keysL fl) := by
      unfold keysL dropL
      exact List.filter_sublist.map _
    exact ⟨h.nd.sublist hs, fun n hh => h.sub n (hs.subset hh)⟩
  refine ⟨?_, ?_, hlen⟩
  · unfold K02.done
    cases d.k with
    | rm => exact hd.1
    | ct => exact (hp _).1
    | wr => exact (hp _).1
  · unfold K02.done
    cases d.k with
    | rm => exact hd.2
    | ct => exact (hp _).2
    | wr => exact (hp _).2
theorem Gd.all {R : Nat} : ∀ {ds : List Dd} {fl : Fl} {M : Nat}, Gd fl M → (∀ d ∈ ds, d.n ∈ names4 ∧ d.r.length ≤ R) → Gd (ds.foldl K02.done fl) (M + R * ds.length)
  | [], fl, M, h, _ => h.mono (by simp)
  | d :: ds, fl, M, h, hd => by
    have h1 := h.done (hd d List.mem_cons_self).1 (hd d List.mem_cons_self).2
    have h2 := Gd.all h1 fun x hx => hd x (List.mem_cons_of_mem _ hx)
    refine h2.mono ?_
    rw [List.length_cons, Nat.mul_succ]
    omega
/-! ### pieces -/
def pcs (p : Nat) (r : List Nat) (at_ : Nat) : List (Nat × List Nat) :=
  if h : at_ < r.length then (p + at_, (r.drop at_).take (min (r.length - at_) (16 - (p + at_) % 16))) :: pcs p r (at_ + min (r.length - at_) (16 - (p + at_) % 16)) else []
termination_by r.length - at_
decreasing_by omega
def pe (x : Nat × List Nat) : E := .tup [.int (x.1 : Int), .tup (nats x.2)]
theorem pcs_end {p at_ : Nat} {r : List Nat} (h : ¬ at_ < r.length) : pcs p r at_ = [] := by
  unfold pcs
  rw [dif_neg h]
theorem pcs_more {p at_ : Nat} {r : List Nat} (h : at_ < r.length) : pcs p r at_ = (p + at_, (r.drop at_).take (min (r.length - at_) (16 - (p + at_) % 16))) :: pcs p r (at_ + min (r.length - at_) (16 - (p + at_) % 16)) := by
  rw [pcs, dif_pos h]
theorem pcs_len {p : Nat} {r : List Nat} : ∀ (m at_ : Nat), r.length - at_ ≤ m → (pcs p r at_).length ≤ m
  | 0, at_, h => by rw [pcs_end (by omega)]; simp
  | m + 1, at_, h => by
    by_cases hl : at_ < r.length
    · rw [pcs_more hl, List.length_cons]
      have := pcs_len (p := p) (r := r) m (at_ + min (r.length - at_) (16 - (p + at_) % 16)) (by omega)
      omega
    · rw [pcs_end hl]; simp
theorem pcs_row {p : Nat} {r : List Nat} : ∀ (m at_ : Nat), r.length - at_ ≤ m → ∀ x ∈ pcs p r at_, x.2.length ≤ 16 ∧ x.2.length ≤ r.length
  | 0, at_, h => by rw [pcs_end (by omega)]; intro x hx; cases hx
  | m + 1, at_, h => by
    by_cases hl : at_ < r.length
    · rw [pcs_more hl]
      intro x hx
      rcases List.mem_cons.mp hx with rfl | hx
      · rw [List.length_take, List.length_drop]
        omega
      · exact pcs_row m _ (by omega) x hx
    · rw [pcs_end hl]; intro x hx; cases hx
theorem minE_nat {i j : Nat} : minE (.int (i : Int)) (.int (j : Int)) = some (.int ((min i j : Nat) : Int)) := by
  show some (E.int (if (j : Int) < (i : Int) then (j : Int) else (i : Int))) = _
  congr 2
  split <;> omega
section
variable {k : Nat}
theorem pcs_turn {G : Hq} {p at_ : Nat} {r : List Nat} {acc : List E} {v : Option E} (h : at_ < r.length) (hl : acc.length ≤ 1000000) :
    b0_1.ev (Pn k) [some (.int (p : Int)), some (.tup (nats r)), some (.ref G.length), some (.int (at_ : Int)), v] (G ++ [.lst acc]) =
      .nx [some (.int (p : Int)), some (.tup (nats r)), some (.ref G.length), some (.int ((at_ + min (r.length - at_) (16 - (p + at_) % 16) : Nat) : Int)), some (.int ((min (r.length - at_) (16 - (p + at_) % 16) : Nat) : Int))] (G ++ [.lst (acc ++ [pe (p + at_, (r.drop at_).take (min (r.length - at_) (16 - (p + at_) % 16)))])]) := by
  have e1 : ((r.length : Int) - (at_ : Int)) = ((r.length - at_ : Nat) : Int) := by omega
  have q : (0 : Int) < 16 := by decide
  have e2 : ((16 : Int) - ((p : Int) + (at_ : Int)) % 16) = ((16 - (p + at_) % 16 : Nat) : Int) := by omega
  have hm := minE_nat (i := r.length - at_) (j := 16 - (p + at_) % 16)
  generalize hsz : min (r.length - at_) (16 - (p + at_) % 16) = sz at *
  have hc := cut_nats (row := r) (a := at_) (b := at_ + sz)
  rw [Int.natCast_add, Nat.add_sub_cancel_left] at hc
  have lt : (acc.length < sizeLine) = True := line_lt hl
  have e3 : ((p : Int) + (at_ : Int)) = ((p + at_ : Nat) : Int) := by omega
  rw [Int.natCast_add at_]
  simp -implicitDefEqProofs only [Stms.ev, Stm.ev, Ex.ev, Ex.evT, Exs.ev, Exs.evAnd, Exs.evOr, Exs.evTAnd, Exs.evTOr, Ox.ev, Ox.evT, Lx.ev, It.ev, v_c, v_bin, v_cmp, v_bl, v_isN, v_ntN, v_not, v_tru, v_asB, v_and, v_or, v_if, v_tup, v_nil, v_cons, v_sub, v_onone, v_osome, v_slice, v_call, v_glb, v_ofE, v_disp, v_cat, v_bi1, v_biL, v_isi, v_inS, v_sidx, v_join, v_subL, v_new, v_dct, v_lenSet, v_attr, v_meth, v_nox, v_dct0, v_dcp, v_dget, v_dpop, v_chain, v_tupE, v_min2, v_listT, v_sortS, v_neL, strE, refE, q_v_setI, q_v_setA, q_v_augA, q_v_parA, v_yes, v_itL, v_itA, v_itR1, v_itR2, v_lc, q_v_asg, q_v_par, q_v_setD, q_v_expr, q_v_app, q_v_if, q_v_for, q_v_ret, o_add, o_sub, c_lt, c_le, c_gt, c_ge, a_add, R.bind_ok, R.bind_ex, R.bind_bad, R.st_ok, R.st_ex, R.st_bad, RS.seq_nx, RS.seq_rt, RS.seq_ex, RS.seq_bk, RS.seq_ct, RS.seq_bad, optR_some, optR_none, Tg.set, setAll, asB, Lt.truthy, isNon, biLE, getL_tmp, getM_tmp, Option.isSome_some, reduceIte, if_true, if_false, Bool.false_eq_true, Option.map_some, w0, w1, w2, w3, w4, w5, w6, w7, w8, w9, w10, w11, w12, w13, w14, w15, w16, w17, w18, w19, w20, w21, w22, w23, w24, x0, x1, x2, x3, x4, x5, x6, x7, x8, x9, x10, x11, x12, x13, x14, x15, x16, x17, x18, x19, x20, x21, x22, x23, x24, z0, z1, z2, z3, z4, z5, z6, z7, z8, z9, z10, z11, z12, z13, z14, z15, z16, z17, z18, z19, z20, z21, z22, z23, z24, y0, y1, y2, y3, y4, y5, y6, y7, y8, y9, y10, y11, y12, y13, y14, y15, y16, y17, y18, y19, y20, y21, y22, y23, y24, b0_1, len_tup, bi1E, e1, glb0, o_mod q, e2, hm, hc, ln2, getL_new, get_new, lt, set_new]
  rw [e3]
  rfl
theorem pcs_loop {G : Hq} {p : Nat} {r : List Nat} : ∀ (fuel at_ : Nat) (acc : List E) (v : Option E), r.length - at_ < fuel → acc.length + (r.length - at_) ≤ 1000000 →
    ∃ v2 u3, whilS (b0_0.evT (Pn k)) (b0_1.ev (Pn k)) fuel [some (.int (p : Int)), some (.tup (nats r)), some (.ref G.length), some (.int (at_ : Int)), v] (G ++ [.lst acc]) =
      .nx [some (.int (p : Int)), some (.tup (nats r)), some (.ref G.length), u3, v2] (G ++ [.lst (acc ++ (pcs p r at_).map pe)])
  | 0, at_, acc, v, h, _ => by omega
  | fuel + 1, at_, acc, v, h, ha => by
    by_cases hl : at_ < r.length
    · have c : b0_0.evT (Pn k) [some (.int (p : Int)), some (.tup (nats r)), some (.ref G.length), some (.int (at_ : Int)), v] (G ++ [.lst acc]) = .ok true (G ++ [.lst acc]) := by
        have d : decide ((at_ : Int) < (r.length : Int)) = true := decide_eq_true (by omega)
        simp -implicitDefEqProofs only [Stms.ev, Stm.ev, Ex.ev, Ex.evT, Exs.ev, Exs.evAnd, Exs.evOr, Exs.evTAnd, Exs.evTOr, Ox.ev, Ox.evT, Lx.ev, It.ev, v_c, v_bin, v_cmp, v_bl, v_isN, v_ntN, v_not, v_tru, v_asB, v_and, v_or, v_if, v_tup, v_nil, v_cons, v_sub, v_onone, v_osome, v_slice, v_call, v_glb, v_ofE, v_disp, v_cat, v_bi1, v_biL, v_isi, v_inS, v_sidx, v_join, v_subL, v_new, v_dct, v_lenSet, v_attr, v_meth, v_nox, v_dct0, v_dcp, v_dget, v_dpop, v_chain, v_tupE, v_min2, v_listT, v_sortS, v_neL, strE, refE, q_v_setI, q_v_setA, q_v_augA, q_v_parA, v_yes, v_itL, v_itA, v_itR1, v_itR2, v_lc, q_v_asg, q_v_par, q_v_setD, q_v_expr, q_v_app, q_v_if, q_v_for, q_v_ret, o_add, o_sub, c_lt, c_le, c_gt, c_ge, a_add, R.bind_ok, R.bind_ex, R.bind_bad, R.st_ok, R.st_ex, R.st_bad, RS.seq_nx, RS.seq_rt, RS.seq_ex, RS.seq_bk, RS.seq_ct, RS.seq_bad, optR_some, optR_none, Tg.set, setAll, asB, Lt.truthy, isNon, biLE, getL_tmp, getM_tmp, Option.isSome_some, reduceIte, if_true, if_false, Bool.false_eq_true, Option.map_some, w0, w1, w2, w3, w4, w5, w6, w7, w8, w9, w10, w11, w12, w13, w14, w15, w16, w17, w18, w19, w20, w21, w22, w23, w24, x0, x1, x2, x3, x4, x5, x6, x7, x8, x9, x10, x11, x12, x13, x14, x15, x16, x17, x18, x19, x20, x21, x22, x23, x24, z0, z1, z2, z3, z4, z5, z6, z7, z8, z9, z10, z11, z12, z13, z14, z15, z16, z17, z18, z19, z20, z21, z22, z23, z24, y0, y1, y2, y3, y4, y5, y6, y7, y8, y9, y10, y11, y12, y13, y14, y15, y16, y17, y18, y19, y20, y21, y22, y23, y24, b0_0, len_tup, bi1E, d]
      have ht := pcs_turn (k := k) (G := G) (p := p) (acc := acc) (v := v) hl (by omega)
      obtain ⟨v2, u3, h2⟩ := pcs_loop (G := G) (p := p) (r := r) fuel (at_ + min (r.length - at_) (16 - (p + at_) % 16)) (acc ++ [pe (p + at_, (r.drop at_).take (min (r.length - at_) (16 - (p + at_) % 16)))]) (some (.int ((min (r.length - at_) (16 - (p + at_) % 16) : Nat) : Int))) (by omega) (by rw [List.length_append]; simp; omega)
      refine ⟨v2, u3, ?_⟩
      unfold whilS
      rw [c, R.st_ok, if_pos rfl, ht]
      show whilS _ _ fuel _ _ = _
      rw [h2, pcs_more hl]
      simp
    · have c : b0_0.evT (Pn k) [some (.int (p : Int)), some (.tup (nats r)), some (.ref G.length), some (.int (at_ : Int)), v] (G ++ [.lst acc]) = .ok false (G ++ [.lst acc]) := by
        have d : decide ((at_ : Int) < (r.length : Int)) = false := decide_eq_false (by omega)
        simp -implicitDefEqProofs only [Stms.ev, Stm.ev, Ex.ev, Ex.evT, Exs.ev, Exs.evAnd, Exs.evOr, Exs.evTAnd, Exs.evTOr, Ox.ev, Ox.evT, Lx.ev, It.ev, v_c, v_bin, v_cmp, v_bl, v_isN, v_ntN, v_not, v_tru, v_asB, v_and, v_or, v_if, v_tup, v_nil, v_cons, v_sub, v_onone, v_osome, v_slice, v_call, v_glb, v_ofE, v_disp, v_cat, v_bi1, v_biL, v_isi, v_inS, v_sidx, v_join, v_subL, v_new, v_dct, v_lenSet, v_attr, v_meth, v_nox, v_dct0, v_dcp, v_dget, v_dpop, v_chain, v_tupE, v_min2, v_listT, v_sortS, v_neL, strE, refE, q_v_setI, q_v_setA, q_v_augA, q_v_parA, v_yes, v_itL, v_itA, v_itR1, v_itR2, v_lc, q_v_asg, q_v_par, q_v_setD, q_v_expr, q_v_app, q_v_if, q_v_for, q_v_ret, o_add, o_sub, c_lt, c_le, c_gt, c_ge, a_add, R.bind_ok, R.bind_ex, R.bind_bad, R.st_ok, R.st_ex, R.st_bad, RS.seq_nx, RS.seq_rt, RS.seq_ex, RS.seq_bk, RS.seq_ct, RS.seq_bad, optR_some, optR_none, Tg.set, setAll, asB, Lt.truthy, isNon, biLE, getL_tmp, getM_tmp, Option.isSome_some, reduceIte, if_true, if_false, Bool.false_eq_true, Option.map_some, w0, w1, w2, w3, w4, w5, w6, w7, w8, w9, w10, w11, w12, w13, w14, w15, w16, w17, w18, w19, w20, w21, w22, w23, w24, x0, x1, x2, x3, x4, x5, x6, x7, x8, x9, x10, x11, x12, x13, x14, x15, x16, x17, x18, x19, x20, x21, x22, x23, x24, z0, z1, z2, z3, z4, z5, z6, z7, z8, z9, z10, z11, z12, z13, z14, z15, z16, z17, z18, z19, z20, z21, z22, z23, z24, y0, y1, y2, y3, y4, y5, y6, y7, y8, y9, y10, y11, y12, y13, y14, y15, y16, y17, y18, y19, y20, y21, y22, y23, y24, b0_0, len_tup, bi1E, d]
      refine ⟨v, some (.int (at_ : Int)), ?_⟩
      unfold whilS
      rw [c, R.st_ok, pcs_end hl, List.map_nil, List.append_nil]
      rfl
theorem pieces_ok {H : Hq} {p : Nat} {r : List Nat} (hr : r.length ≤ 90000) : cl (k + 1) 0 [.int (p : Int), .tup (nats r)] H = .ok (.ref H.length) (H ++ [.lst ((pcs p r 0).map pe)]) := by
  rw [cl_succ (fn := f0) rfl rfl]
  show endR false H (b0.ev (Pn k) [some (.int (p : Int)), some (.tup (nats r)), none, none, none] H) = _
  obtain ⟨v2, u3, hl⟩ := pcs_loop (k := k) (G := H) (p := p) (r := r) 100000 0 [] none (by omega) (by simp; omega)
  rw [List.nil_append] at hl
  have hl : whilS (b0_0.evT (Pn k)) (b0_1.ev (Pn k)) (Pn k).wf [some (.int (p : Int)), some (.tup (nats r)), some (.ref H.length), some (.int 0), none] (H ++ [.lst []]) = _ := hl
  have e : b0.ev (Pn k) [some (.int (p : Int)), some (.tup (nats r)), none, none, none] H = .rt (.ref H.length) (H ++ [.lst ((pcs p r 0).map pe)]) := by
    simp -implicitDefEqProofs only [Stms.ev, Stm.ev, Ex.ev, Ex.evT, Exs.ev, Exs.evAnd, Exs.evOr, Exs.evTAnd, Exs.evTOr, Ox.ev, Ox.evT, Lx.ev, It.ev, v_c, v_bin, v_cmp, v_bl, v_isN, v_ntN, v_not, v_tru, v_asB, v_and, v_or, v_if, v_tup, v_nil, v_cons, v_sub, v_onone, v_osome, v_slice, v_call, v_glb, v_ofE, v_disp, v_cat, v_bi1, v_biL, v_isi, v_inS, v_sidx, v_join, v_subL, v_new, v_dct, v_lenSet, v_attr, v_meth, v_nox, v_dct0, v_dcp, v_dget, v_dpop, v_chain, v_tupE, v_min2, v_listT, v_sortS, v_neL, strE, refE, q_v_setI, q_v_setA, q_v_augA, q_v_parA, v_yes, v_itL, v_itA, v_itR1, v_itR2, v_lc, q_v_asg, q_v_par, q_v_setD, q_v_expr, q_v_app, q_v_if, q_v_for, q_v_ret, o_add, o_sub, c_lt, c_le, c_gt, c_ge, a_add, R.bind_ok, R.bind_ex, R.bind_bad, R.st_ok, R.st_ex, R.st_bad, RS.seq_nx, RS.seq_rt, RS.seq_ex, RS.seq_bk, RS.seq_ct, RS.seq_bad, optR_some, optR_none, Tg.set, setAll, asB, Lt.truthy, isNon, biLE, getL_tmp, getM_tmp, Option.isSome_some, reduceIte, if_true, if_false, Bool.false_eq_true, Option.map_some, w0, w1, w2, w3, w4, w5, w6, w7, w8, w9, w10, w11, w12, w13, w14, w15, w16, w17, w18, w19, w20, w21, w22, w23, w24, x0, x1, x2, x3, x4, x5, x6, x7, x8, x9, x10, x11, x12, x13, x14, x15, x16, x17, x18, x19, x20, x21, x22, x23, x24, z0, z1, z2, z3, z4, z5, z6, z7, z8, z9, z10, z11, z12, z13, z14, z15, z16, z17, z18, z19, z20, z21, z22, z23, z24, y0, y1, y2, y3, y4, y5, y6, y7, y8, y9, y10, y11, y12, y13, y14, y15, y16, y17, y18, y19, y20, y21, y22, y23, y24, b0, ln0, hl]
  rw [e]
  rfl
end
end K02
end
section
set_option Elab.async false
set_option linter.all false
set_option maxRecDepth 100000
set_option maxHeartbeats 1000000
/-! k02: the disk: sync, a new one, a copy, what waits. -/
namespace K02
open PySem Lt
section
variable {H : Hq} {D kd nd wd k : Nat} {f : E} {s : Int} {kept now : Fl} {w : List Dd}
theorem sub_e0 {d : Dd} : subE H d.e (.int 0) = some (.str d.k.s) := atI_nat (j := 0) rfl
theorem sub_e1 {d : Dd} : subE H d.e (.int 1) = some (.str d.n) := atI_nat (j := 1) rfl
theorem sub_e2 {d : Dd} : subE H d.e (.int 2) = some (.int (d.p : Int)) := atI_nat (j := 2) rfl
theorem sub_e3 {d : Dd} : subE H d.e (.int 3) = some (.tup (nats d.r)) := atI_nat (j := 3) rfl
theorem Gd.fit {fl : Fl} {M : Nat} {d : Dd} (h : Gd fl M) (hr : M + d.r.length ≤ 100000) : Fit fl d := h.bd.fit (by omega) hr
theorem Gd.h40 {fl : Fl} {M : Nat} {d : Dd} (h : Gd fl M) (hn : d.n ∈ names4) : (K02.done fl d).length ≤ 40 := by
  have := (h.done (R := d.r.length) hn (Nat.le_refl _)).few
  omega
def own (n : Str) (ds : List Dd) : List Dd := ds.filter fun d => decide (d.n = n)
def oth (n : Str) (ds : List Dd) : List Dd := ds.filter fun d => !decide (d.n = n)
theorem sync_loop {n : Str} {L : Nat} {tg : Tg} (htg : tg = .name ⟨3, "deed", ⟨68, 12, 68, 16⟩⟩) : ∀ (ds : List Dd) (H : Hq) (kd M : Nat) (kept : Fl) (left : List Dd) (v : Option E), DiskAt H D kd nd wd kept now w f s → H[L]? = some (.lst (left.map Dd.e)) → L ≠ wd → Gd kept M → (∀ d ∈ ds, d.n ∈ names4 ∧ d.r.length ≤ 50) → M + 50 * ds.length ≤ 50000 → left.length + ds.length ≤ 1000 →
    ∃ H' kd' v2, forS (some wd) (w.map Dd.e) tg (b19_0.ev (Pn (k + 1))) (ds.map Dd.e) [some (.ref D), some (.str n), some (.ref L), v] H = .nx [some (.ref D), some (.str n), some (.ref L), v2] H' ∧
      DiskAt H' D kd' nd wd ((own n ds).foldl done kept) now w f s ∧ H'[L]? = some (.lst ((left ++ oth n ds).map Dd.e)) ∧ Fr D L H H'
  | [], H, kd, M, kept, left, v, h, hL, hne, hG, hd, hM, hl => ⟨H, kd, v, by rw [List.map_nil, for_end (stays_at h.wait)], h, by rw [show oth n [] = [] from rfl, List.append_nil]; exact hL, Fr.refl⟩
  | d :: ds, H, kd, M, kept, left, v, h, hL, hne, hG, hd, hM, hl => by
    rw [List.length_cons] at hM hl
    have hd0 := hd d List.mem_cons_self
    by_cases hn : d.n = n
    · have h1 := at_kept (k := k + 1) h.at_
      have h2 := done_ok (k := k) (d := d) h.kept (hG.fit (by omega)) (hG.h40 hd0.1)
      rw [← par_cl] at h2
      have hA : DiskAt (H ++ [Ob.dct (fe (done kept d))]) D kd nd wd kept now w f s := h.app
      have h3 := st_kept (k := k + 1) (v := H.length) hA.at_
      have hlt := (List.getElem?_eq_some_iff.mp h.at_).1
      have hnew : (H ++ [Ob.dct (fe (done kept d))])[H.length]? = some (.dct (fe (done kept d))) := get_new
      have hB : DiskAt ((H ++ [Ob.dct (fe (done kept d))]).set D (DO H.length nd wd f s)) D H.length nd wd (done kept d) now w f s :=
        ⟨set_at hA.at_, by rw [set_ne (by omega)]; exact hnew, by rw [set_ne (dct_ne hA.at_ hA.now)]; exact hA.now, by rw [set_ne (lst_ne hA.at_ hA.wait)]; exact hA.wait⟩
      have hL2 : ((H ++ [Ob.dct (fe (done kept d))]).set D (DO H.length nd wd f s))[L]? = some (.lst (left.map Dd.e)) := by
        rw [set_ne (lst_ne h.at_ hL)]; exact get_app hL
      have c : decide (d.n = n) = true := decide_eq_true hn
      have ht : b19_0.ev (Pn (k + 1)) [some (.ref D), some (.str n), some (.ref L), some d.e] H = .nx [some (.ref D), some (.str n), some (.ref L), some d.e] ((H ++ [Ob.dct (fe (done kept d))]).set D (DO H.length nd wd f s)) := by
        simp -implicitDefEqProofs only [Stms.ev, Stm.ev, Ex.ev, Ex.evT, Exs.ev, Exs.evAnd, Exs.evOr, Exs.evTAnd, Exs.evTOr, Ox.ev, Ox.evT, Lx.ev, It.ev, v_c, v_bin, v_cmp, v_bl, v_isN, v_ntN, v_not, v_tru, v_asB, v_and, v_or, v_if, v_tup, v_nil, v_cons, v_sub, v_onone, v_osome, v_slice, v_call, v_glb, v_ofE, v_disp, v_cat, v_bi1, v_biL, v_isi, v_inS, v_sidx, v_join, v_subL, v_new, v_dct, v_lenSet, v_attr, v_meth, v_nox, v_dct0, v_dcp, v_dget, v_dpop, v_chain, v_tupE, v_min2, v_listT, v_sortS, v_neL, strE, refE, q_v_setI, q_v_setA, q_v_augA, q_v_parA, v_yes, v_itL, v_itA, v_itR1, v_itR2, v_lc, q_v_asg, q_v_par, q_v_setD, q_v_expr, q_v_app, q_v_if, q_v_for, q_v_ret, o_add, o_sub, c_lt, c_le, c_gt, c_ge, a_add, R.bind_ok, R.bind_ex, R.bind_bad, R.st_ok, R.st_ex, R.st_bad, RS.seq_nx, RS.seq_rt, RS.seq_ex, RS.seq_bk, RS.seq_ct, RS.seq_bad, optR_some, optR_none, Tg.set, setAll, asB, Lt.truthy, isNon, biLE, getL_tmp, getM_tmp, Option.isSome_some, reduceIte, if_true, if_false, Bool.false_eq_true, Option.map_some, w0, w1, w2, w3, w4, w5, w6, w7, w8, w9, w10, w11, w12, w13, w14, w15, w16, w17, w18, w19, w20, w21, w22, w23, w24, x0, x1, x2, x3, x4, x5, x6, x7, x8, x9, x10, x11, x12, x13, x14, x15, x16, x17, x18, x19, x20, x21, x22, x23, x24, z0, z1, z2, z3, z4, z5, z6, z7, z8, z9, z10, z11, z12, z13, z14, z15, z16, z17, z18, z19, z20, z21, z22, z23, z24, y0, y1, y2, y3, y4, y5, y6, y7, y8, y9, y10, y11, y12, y13, y14, y15, y16, y17, y18, y19, y20, y21, y22, y23, y24, b19_0, sub_e0, sub_e1, sub_e2, sub_e3, c_eqS, c, h1, h2, h3]
      obtain ⟨H', kd', v2, e1, e2, e3, e4⟩ := sync_loop (n := n) (L := L) htg ds _ H.length (M + 50) (done kept d) left (some d.e) hB hL2 hne (hG.done hd0.1 hd0.2) (fun x hx => hd x (List.mem_cons_of_mem _ hx)) (by omega) (by omega)
      refine ⟨H', kd', v2, ?_, ?_, ?_, (Fr.app.trans Fr.set (.inl rfl)).trans e4 (.inl rfl)⟩
      · subst htg
        rw [List.map_cons, for_nx (ρ1 := [some (.ref D), some (.str n), some (.ref L), some d.e]) (stays_at h.wait) rfl ht, e1]
      · rw [show own n (d :: ds) = d :: own n ds by unfold own; rw [List.filter_cons_of_pos (by simpa using hn)]]
        exact e2
      · rw [show oth n (d :: ds) = oth n ds by unfold oth; rw [List.filter_cons_of_neg (by simpa using hn)]]
        exact e3
    · have c : decide (d.n = n) = false := decide_eq_false hn
      have h5 := getL_at hL
      have lt : ((left.map Dd.e).length < sizeLine) = True := line_lt (by rw [List.length_map]; omega)
      have ht : b19_0.ev (Pn (k + 1)) [some (.ref D), some (.str n), some (.ref L), some d.e] H = .nx [some (.ref D), some (.str n), some (.ref L), some d.e] (H.set L (Ob.lst (left.map Dd.e ++ [d.e]))) := by
        simp -implicitDefEqProofs only [Stms.ev, Stm.ev, Ex.ev, Ex.evT, Exs.ev, Exs.evAnd, Exs.evOr, Exs.evTAnd, Exs.evTOr, Ox.ev, Ox.evT, Lx.ev, It.ev, v_c, v_bin, v_cmp, v_bl, v_isN, v_ntN, v_not, v_tru, v_asB, v_and, v_or, v_if, v_tup, v_nil, v_cons, v_sub, v_onone, v_osome, v_slice, v_call, v_glb, v_ofE, v_disp, v_cat, v_bi1, v_biL, v_isi, v_inS, v_sidx, v_join, v_subL, v_new, v_dct, v_lenSet, v_attr, v_meth, v_nox, v_dct0, v_dcp, v_dget, v_dpop, v_chain, v_tupE, v_min2, v_listT, v_sortS, v_neL, strE, refE, q_v_setI, q_v_setA, q_v_augA, q_v_parA, v_yes, v_itL, v_itA, v_itR1, v_itR2, v_lc, q_v_asg, q_v_par, q_v_setD, q_v_expr, q_v_app, q_v_if, q_v_for, q_v_ret, o_add, o_sub, c_lt, c_le, c_gt, c_ge, a_add, R.bind_ok, R.bind_ex, R.bind_bad, R.st_ok, R.st_ex, R.st_bad, RS.seq_nx, RS.seq_rt, RS.seq_ex, RS.seq_bk, RS.seq_ct, RS.seq_bad, optR_some, optR_none, Tg.set, setAll, asB, Lt.truthy, isNon, biLE, getL_tmp, getM_tmp, Option.isSome_some, reduceIte, if_true, if_false, Bool.false_eq_true, Option.map_some, w0, w1, w2, w3, w4, w5, w6, w7, w8, w9, w10, w11, w12, w13, w14, w15, w16, w17, w18, w19, w20, w21, w22, w23, w24, x0, x1, x2, x3, x4, x5, x6, x7, x8, x9, x10, x11, x12, x13, x14, x15, x16, x17, x18, x19, x20, x21, x22, x23, x24, z0, z1, z2, z3, z4, z5, z6, z7, z8, z9, z10, z11, z12, z13, z14, z15, z16, z17, z18, z19, z20, z21, z22, z23, z24, y0, y1, y2, y3, y4, y5, y6, y7, y8, y9, y10, y11, y12, y13, y14, y15, y16, y17, y18, y19, y20, y21, y22, y23, y24, b19_0, sub_e1, c_eqS, c, h5, hL, lt]
      have hLD : L ≠ D := lst_ne h.at_ hL
      have hB : DiskAt (H.set L (Ob.lst (left.map Dd.e ++ [d.e]))) D kd nd wd kept now w f s :=
        ⟨by rw [set_ne hLD.symm]; exact h.at_, by rw [set_ne (ld_ne h.kept hL)]; exact h.kept, by rw [set_ne (ld_ne h.now hL)]; exact h.now, by rw [set_ne hne.symm]; exact h.wait⟩
      have hL2 : (H.set L (Ob.lst (left.map Dd.e ++ [d.e])))[L]? = some (.lst ((left ++ [d]).map Dd.e)) := by
        rw [List.map_append]; exact set_at hL
      obtain ⟨H', kd', v2, e1, e2, e3, e4⟩ := sync_loop (n := n) (L := L) htg ds _ kd M kept (left ++ [d]) (some d.e) hB hL2 hne hG (fun x hx => hd x (List.mem_cons_of_mem _ hx)) (by omega) (by rw [List.length_append]; simp; omega)
      refine ⟨H', kd', v2, ?_, ?_, ?_, Fr.setW.trans e4 (.inl rfl)⟩
      · subst htg
        rw [List.map_cons, for_nx (ρ1 := [some (.ref D), some (.str n), some (.ref L), some d.e]) (stays_at h.wait) rfl ht, e1]
      · rw [show own n (d :: ds) = own n ds by unfold own; rw [List.filter_cons_of_neg (by simpa using hn)]]
        exact e2
      · rw [show oth n (d :: ds) = d :: oth n ds by unfold oth; rw [List.filter_cons_of_pos (by simpa using hn)]]
        rw [List.append_assoc] at e3
        exact e3
theorem sync_ok {n : Str} {M : Nat} (h : DiskAt H D kd nd wd kept now w f s) (hf : Burns f) (hG : Gd kept M) (hd : ∀ d ∈ w, d.n ∈ names4 ∧ d.r.length ≤ 50) (hM : M + 50 * w.length ≤ 50000) (hw : w.length ≤ 1000) :
    ∃ H' kd', cl (k + 2) 19 [.ref D, .str n] H = .ok .non H' ∧ DiskAt H' D kd' nd H.length ((own n w).foldl done kept) now (oth n w) (burn f) (s + 1) ∧ Fr D wd H H' := by
  rw [cl_succ (fn := f19) rfl rfl]
  show ∃ H' kd', endR false H (b19.ev (Pn (k + 1)) [some (.ref D), some (.str n), none, none] H) = .ok .non H' ∧ _
  have m2 := me_step (k := k + 1) h.at_
  have c2 := step_ok (k := k) h hf
  rw [← par_cl] at c2
  have hP : DiskAt (H.set D (DO kd nd wd (burn f) (s + 1))) D kd nd wd kept now w (burn f) (s + 1) := h.put
  have hlen : (H.set D (DO kd nd wd (burn f) (s + 1))).length = H.length := List.length_set ..
  have hQ : DiskAt (H.set D (DO kd nd wd (burn f) (s + 1)) ++ [Ob.lst []]) D kd nd wd kept now w (burn f) (s + 1) := hP.app
  have hL : (H.set D (DO kd nd wd (burn f) (s + 1)) ++ [Ob.lst []])[(H.set D (DO kd nd wd (burn f) (s + 1))).length]? = some (.lst (([] : List Dd).map Dd.e)) := get_new
  have hwl := (List.getElem?_eq_some_iff.mp h.wait).1
  obtain ⟨H1, kd', v2, e1, e2, e3, e4⟩ := sync_loop (n := n) (k := k) rfl w _ kd M kept [] none hQ hL (by rw [hlen]; omega) hG hd hM (by simp; omega)
  have i1 := at_wait (k := k + 1) hQ.at_
  have i2 := it_at hQ.wait
  have i3 := st_wait (k := k + 1) (v := (H.set D (DO kd nd wd (burn f) (s + 1))).length) e2.at_
  rw [List.nil_append] at e3
  have e : b19.ev (Pn (k + 1)) [some (.ref D), some (.str n), none, none] H = .nx [some (.ref D), some (.str n), some (.ref (H.set D (DO kd nd wd (burn f) (s + 1))).length), v2] (H1.set D (DO kd' nd (H.set D (DO kd nd wd (burn f) (s + 1))).length (burn f) (s + 1))) := by
    simp -implicitDefEqProofs only [Stms.ev, Stm.ev, Ex.ev, Ex.evT, Exs.ev, Exs.evAnd, Exs.evOr, Exs.evTAnd, Exs.evTOr, Ox.ev, Ox.evT, Lx.ev, It.ev, v_c, v_bin, v_cmp, v_bl, v_isN, v_ntN, v_not, v_tru, v_asB, v_and, v_or, v_if, v_tup, v_nil, v_cons, v_sub, v_onone, v_osome, v_slice, v_call, v_glb, v_ofE, v_disp, v_cat, v_bi1, v_biL, v_isi, v_inS, v_sidx, v_join, v_subL, v_new, v_dct, v_lenSet, v_attr, v_meth, v_nox, v_dct0, v_dcp, v_dget, v_dpop, v_chain, v_tupE, v_min2, v_listT, v_sortS, v_neL, strE, refE, q_v_setI, q_v_setA, q_v_augA, q_v_parA, v_yes, v_itL, v_itA, v_itR1, v_itR2, v_lc, q_v_asg, q_v_par, q_v_setD, q_v_expr, q_v_app, q_v_if, q_v_for, q_v_ret, o_add, o_sub, c_lt, c_le, c_gt, c_ge, a_add, R.bind_ok, R.bind_ex, R.bind_bad, R.st_ok, R.st_ex, R.st_bad, RS.seq_nx, RS.seq_rt, RS.seq_ex, RS.seq_bk, RS.seq_ct, RS.seq_bad, optR_some, optR_none, Tg.set, setAll, asB, Lt.truthy, isNon, biLE, getL_tmp, getM_tmp, Option.isSome_some, reduceIte, if_true, if_false, Bool.false_eq_true, Option.map_some, w0, w1, w2, w3, w4, w5, w6, w7, w8, w9, w10, w11, w12, w13, w14, w15, w16, w17, w18, w19, w20, w21, w22, w23, w24, x0, x1, x2, x3, x4, x5, x6, x7, x8, x9, x10, x11, x12, x13, x14, x15, x16, x17, x18, x19, x20, x21, x22, x23, x24, z0, z1, z2, z3, z4, z5, z6, z7, z8, z9, z10, z11, z12, z13, z14, z15, z16, z17, z18, z19, z20, z21, z22, z23, z24, y0, y1, y2, y3, y4, y5, y6, y7, y8, y9, y10, y11, y12, y13, y14, y15, y16, y17, y18, y19, y20, y21, y22, y23, y24, b19, m2, ar0, c2, ln0, i1, i2, e1, i3]
  rw [e]
  refine ⟨_, kd', rfl, ⟨?_, ?_, ?_, ?_⟩, ?_⟩
  · rw [hlen]; exact set_at e2.at_
  · rw [set_ne (dct_ne e2.at_ e2.kept)]; exact e2.kept
  · rw [set_ne (dct_ne e2.at_ e2.now)]; exact e2.now
  · rw [hlen] at e3
    rw [set_ne (lst_ne e2.at_ e3)]
    exact e3
  · have q1 : Fr D wd H (H.set D (DO kd nd wd (burn f) (s + 1)) ++ [Ob.lst []]) := Fr.set.trans Fr.app (.inl rfl)
    have q2 : Fr D (H.set D (DO kd nd wd (burn f) (s + 1))).length (H.set D (DO kd nd wd (burn f) (s + 1)) ++ [Ob.lst []]) H1 := e4
    exact (q1.trans q2 (.inr (by rw [hlen]; exact Nat.le_refl _))).trans (Fr.set (wd := wd)) (.inl rfl)
end
end K02
end
section
set_option Elab.async false
set_option linter.all false
set_option maxRecDepth 100000
set_option maxHeartbeats 1000000
/-! k02: a new disk, a copy, what waits. -/
namespace K02
open PySem Lt
section
variable {H : Hq} {D kd nd wd k : Nat} {f : E} {s : Int} {kept now : Fl} {w : List Dd}
theorem v_make {P : Par} {c : Str} {es : Sx (List E)} {ρ : Ro} {H : Hq} : sMake P c es ρ H = (optR (P.ci c) H).bind fun f _ => (es ρ H).bind fun xs G1 => if xs.length + 1 = f.2 then ((P.cl f.1 (.ref G1.length :: xs) (G1 ++ [.ins c []])).nox).bind fun v G2 => (match v with
  | .non => .ok (.ref G1.length) G2
  | _ => .bad) else .bad := rfl
theorem st_g (x : Str) (v : E) (fs : List (Str × E)) (o : Ob) (h : H[D]? = some (.ins "Disk" fs)) (ha : (Pn k).av "Disk" x = true) (hl : decide (fs.length < 1000) = true) (ho : Ob.ins "Disk" (putA x v fs) = o) : setAtt (Pn k) (.ref D) x v H = some (H.set D o) := by
  show (match H[D]? with | some (.ins c fs) => if (Pn k).av c x && decide (fs.length < 1000) then some (H.set D (.ins c (putA x v fs))) else none | _ => none) = _
  rw [h]
  show (if ((Pn k).av "Disk" x && decide (fs.length < 1000)) = true then some (H.set D (.ins "Disk" (putA x v fs))) else none) = _
  rw [ha, hl, if_pos (show (true && true) = true from rfl), ho]
/-- what stood, stands -/
def Up (H H' : Hq) : Prop := H.length ≤ H'.length ∧ ∀ i, i < H.length → H'[i]? = H[i]?
theorem Up.at {H' : Hq} {i : Nat} {o : Ob} (h : Up H H') (hi : H[i]? = some o) : H'[i]? = some o := by
  rw [h.2 i (List.getElem?_eq_some_iff.mp hi).1]
  exact hi
theorem init_ok : ∃ H' kd nd wd, cl (k + 1) 8 [.ref H.length] (H ++ [.ins "Disk" []]) = .ok .non H' ∧ DiskAt H' H.length kd nd wd [] [] [] .non 0 ∧ Up H H' ∧ H.length < wd := by
  rw [cl_succ (fn := f8) rfl rfl]
  show ∃ H' kd nd wd, endR false (H ++ [.ins "Disk" []]) (b8.ev (Pn k) [some (.ref H.length)] (H ++ [.ins "Disk" []])) = .ok .non H' ∧ _
  have g1 : (H ++ [Ob.ins "Disk" []] ++ [Ob.dct []])[H.length]? = some (.ins "Disk" []) := get_app get_new
  have t1 := st_g (k := k) "_kept" (.ref (H ++ [Ob.ins "Disk" []]).length) [] (.ins "Disk" [("_kept", .ref (H ++ [Ob.ins "Disk" []]).length)]) g1 av_kept rfl rfl
  generalize hH1 : (H ++ [Ob.ins "Disk" []] ++ [Ob.dct []]).set H.length (.ins "Disk" [("_kept", .ref (H ++ [Ob.ins "Disk" []]).length)]) = H1 at t1
  have l1 : H1.length = H.length + 2 := by rw [← hH1]; simp
  have a1 : H1[H.length]? = some (.ins "Disk" [("_kept", .ref (H ++ [Ob.ins "Disk" []]).length)]) := by rw [← hH1]; exact set_at g1
  have d1 : H1[(H ++ [Ob.ins "Disk" []]).length]? = some (.dct []) := by rw [← hH1, set_ne (by simp)]; exact get_new
  have u1 : ∀ i, i < H.length → H1[i]? = H[i]? := fun i hi => by rw [← hH1, set_ne (by omega), List.append_assoc, List.getElem?_append_left hi]
  have t2 := st_g (k := k) "_now" (.ref H1.length) _ (.ins "Disk" [("_kept", .ref (H ++ [Ob.ins "Disk" []]).length), ("_now", .ref H1.length)]) (get_app (J := [Ob.dct []]) a1) av_now rfl rfl
  generalize hH2 : (H1 ++ [Ob.dct []]).set H.length (.ins "Disk" [("_kept", .ref (H ++ [Ob.ins "Disk" []]).length), ("_now", .ref H1.length)]) = H2 at t2
  have l2 : H2.length = H.length + 3 := by rw [← hH2]; simp; omega
  have a2 : H2[H.length]? = some (.ins "Disk" [("_kept", .ref (H ++ [Ob.ins "Disk" []]).length), ("_now", .ref H1.length)]) := by rw [← hH2]; exact set_at (get_app a1)
  have d2 : H2[(H ++ [Ob.ins "Disk" []]).length]? = some (.dct []) := by rw [← hH2, set_ne (by simp)]; exact get_app d1
  have n2 : H2[H1.length]? = some (.dct []) := by rw [← hH2, set_ne (by omega)]; exact get_new
  have u2 : ∀ i, i < H.length → H2[i]? = H[i]? := fun i hi => by rw [← hH2, set_ne (by omega), List.getElem?_append_left (by omega), u1 i hi]
  have t3 := st_g (k := k) "_waiting" (.ref H2.length) _ (.ins "Disk" [("_kept", .ref (H ++ [Ob.ins "Disk" []]).length), ("_now", .ref H1.length), ("_waiting", .ref H2.length)]) (get_app (J := [Ob.lst []]) a2) av_wait rfl rfl
  generalize hH3 : (H2 ++ [Ob.lst []]).set H.length (.ins "Disk" [("_kept", .ref (H ++ [Ob.ins "Disk" []]).length), ("_now", .ref H1.length), ("_waiting", .ref H2.length)]) = H3 at t3
  have l3 : H3.length = H.length + 4 := by rw [← hH3]; simp; omega
  have a3 : H3[H.length]? = some (.ins "Disk" [("_kept", .ref (H ++ [Ob.ins "Disk" []]).length), ("_now", .ref H1.length), ("_waiting", .ref H2.length)]) := by rw [← hH3]; exact set_at (get_app a2)
  have d3 : H3[(H ++ [Ob.ins "Disk" []]).length]? = some (.dct []) := by rw [← hH3, set_ne (by simp)]; exact get_app d2
  have n3 : H3[H1.length]? = some (.dct []) := by rw [← hH3, set_ne (by omega)]; exact get_app n2
  have w3' : H3[H2.length]? = some (.lst []) := by rw [← hH3, set_ne (by omega)]; exact get_new
  have u3 : ∀ i, i < H.length → H3[i]? = H[i]? := fun i hi => by rw [← hH3, set_ne (by omega), List.getElem?_append_left (by omega), u2 i hi]
  have t4 := st_g (k := k) "_fuse" .non _ (.ins "Disk" [("_kept", .ref (H ++ [Ob.ins "Disk" []]).length), ("_now", .ref H1.length), ("_waiting", .ref H2.length), ("_fuse", .non)]) a3 av_fuse rfl rfl
  have t5 := st_g (k := k) "_steps" (.int 0) _ (DO (H ++ [Ob.ins "Disk" []]).length H1.length H2.length .non 0) (set_at (x := .ins "Disk" [("_kept", .ref (H ++ [Ob.ins "Disk" []]).length), ("_now", .ref H1.length), ("_waiting", .ref H2.length), ("_fuse", .non)]) a3) av_steps rfl rfl
  rw [List.set_set] at t5
  have e : b8.ev (Pn k) [some (.ref H.length)] (H ++ [.ins "Disk" []]) = .nx [some (.ref H.length)] (H3.set H.length (DO (H ++ [Ob.ins "Disk" []]).length H1.length H2.length .non 0)) := by
    simp -implicitDefEqProofs only [Stms.ev, Stm.ev, Ex.ev, Ex.evT, Exs.ev, Exs.evAnd, Exs.evOr, Exs.evTAnd, Exs.evTOr, Ox.ev, Ox.evT, Lx.ev, It.ev, v_c, v_bin, v_cmp, v_bl, v_isN, v_ntN, v_not, v_tru, v_asB, v_and, v_or, v_if, v_tup, v_nil, v_cons, v_sub, v_onone, v_osome, v_slice, v_call, v_glb, v_ofE, v_disp, v_cat, v_bi1, v_biL, v_isi, v_inS, v_sidx, v_join, v_subL, v_new, v_dct, v_lenSet, v_attr, v_meth, v_nox, v_dct0, v_dcp, v_dget, v_dpop, v_chain, v_tupE, v_min2, v_listT, v_sortS, v_neL, strE, refE, q_v_setI, q_v_setA, q_v_augA, q_v_parA, v_yes, v_itL, v_itA, v_itR1, v_itR2, v_lc, q_v_asg, q_v_par, q_v_setD, q_v_expr, q_v_app, q_v_if, q_v_for, q_v_ret, o_add, o_sub, c_lt, c_le, c_gt, c_ge, a_add, R.bind_ok, R.bind_ex, R.bind_bad, R.st_ok, R.st_ex, R.st_bad, RS.seq_nx, RS.seq_rt, RS.seq_ex, RS.seq_bk, RS.seq_ct, RS.seq_bad, optR_some, optR_none, Tg.set, setAll, asB, Lt.truthy, isNon, biLE, getL_tmp, getM_tmp, Option.isSome_some, reduceIte, if_true, if_false, Bool.false_eq_true, Option.map_some, w0, w1, w2, w3, w4, w5, w6, w7, w8, w9, w10, w11, w12, w13, w14, w15, w16, w17, w18, w19, w20, w21, w22, w23, w24, x0, x1, x2, x3, x4, x5, x6, x7, x8, x9, x10, x11, x12, x13, x14, x15, x16, x17, x18, x19, x20, x21, x22, x23, x24, z0, z1, z2, z3, z4, z5, z6, z7, z8, z9, z10, z11, z12, z13, z14, z15, z16, z17, z18, z19, z20, z21, z22, z23, z24, y0, y1, y2, y3, y4, y5, y6, y7, y8, y9, y10, y11, y12, y13, y14, y15, y16, y17, y18, y19, y20, y21, y22, y23, y24, b8, t1, t2, ln0, t3, t4, t5]
  rw [e]
  refine ⟨_, _, _, _, rfl, ⟨set_at a3, ?_, ?_, ?_⟩, ⟨by rw [List.length_set]; omega, fun i hi => ?_⟩, by omega⟩
  · rw [set_ne (by simp)]; exact d3
  · rw [set_ne (by omega)]; exact n3
  · rw [set_ne (by omega)]; exact w3'
  · rw [set_ne (by omega)]; exact u3 i hi
theorem ci_disk : (Pn k).ci "Disk" = some (8, 1) := by show cis.lookup ("Disk" : Str) = some (8, 1); decide +kernel
/-- Disk() -/
theorem make_ok {ρ : Ro} {p1 p : Pos} : ∃ H' kd nd wd, (Ex.make "Disk" .nil p1 p).ev (Pn (k + 1)) ρ H = .ok (.ref H.length) H' ∧ DiskAt H' H.length kd nd wd [] [] [] .non 0 ∧ Up H H' ∧ H.length < wd := by
  obtain ⟨H', kd, nd, wd, h1, h2, h3, h4⟩ := init_ok (H := H) (k := k)
  rw [← par_cl] at h1
  refine ⟨H', kd, nd, wd, ?_, h2, h3, h4⟩
  have ci := ci_disk (k := k + 1)
  simp -implicitDefEqProofs only [Stms.ev, Stm.ev, Ex.ev, Ex.evT, Exs.ev, Exs.evAnd, Exs.evOr, Exs.evTAnd, Exs.evTOr, Ox.ev, Ox.evT, Lx.ev, It.ev, v_c, v_bin, v_cmp, v_bl, v_isN, v_ntN, v_not, v_tru, v_asB, v_and, v_or, v_if, v_tup, v_nil, v_cons, v_sub, v_onone, v_osome, v_slice, v_call, v_glb, v_ofE, v_disp, v_cat, v_bi1, v_biL, v_isi, v_inS, v_sidx, v_join, v_subL, v_new, v_dct, v_lenSet, v_attr, v_meth, v_nox, v_dct0, v_dcp, v_dget, v_dpop, v_chain, v_tupE, v_min2, v_listT, v_sortS, v_neL, strE, refE, q_v_setI, q_v_setA, q_v_augA, q_v_parA, v_yes, v_itL, v_itA, v_itR1, v_itR2, v_lc, q_v_asg, q_v_par, q_v_setD, q_v_expr, q_v_app, q_v_if, q_v_for, q_v_ret, o_add, o_sub, c_lt, c_le, c_gt, c_ge, a_add, R.bind_ok, R.bind_ex, R.bind_bad, R.st_ok, R.st_ex, R.st_bad, RS.seq_nx, RS.seq_rt, RS.seq_ex, RS.seq_bk, RS.seq_ct, RS.seq_bad, optR_some, optR_none, Tg.set, setAll, asB, Lt.truthy, isNon, biLE, getL_tmp, getM_tmp, Option.isSome_some, reduceIte, if_true, if_false, Bool.false_eq_true, Option.map_some, w0, w1, w2, w3, w4, w5, w6, w7, w8, w9, w10, w11, w12, w13, w14, w15, w16, w17, w18, w19, w20, w21, w22, w23, w24, x0, x1, x2, x3, x4, x5, x6, x7, x8, x9, x10, x11, x12, x13, x14, x15, x16, x17, x18, x19, x20, x21, x22, x23, x24, z0, z1, z2, z3, z4, z5, z6, z7, z8, z9, z10, z11, z12, z13, z14, z15, z16, z17, z18, z19, z20, z21, z22, z23, z24, y0, y1, y2, y3, y4, y5, y6, y7, y8, y9, y10, y11, y12, y13, y14, y15, y16, y17, y18, y19, y20, y21, y22, y23, y24, v_make, ci, ar0, h1]
theorem copy_ok (h : DiskAt H D kd nd wd kept now w f s) : ∃ H' D2 kd2 nd2 wd2, cl (k + 2) 22 [.ref D] H = .ok (.ref D2) H' ∧ DiskAt H' D2 kd2 nd2 wd2 kept kept [] .non 0 ∧ Up H H' := by
  rw [cl_succ (fn := f22) rfl rfl]
  show ∃ H' D2 kd2 nd2 wd2, endR false H (b22.ev (Pn (k + 1)) [some (.ref D), none] H) = .ok (.ref D2) H' ∧ _
  obtain ⟨H1, ka, na, wa, h1, h2, h3, h4⟩ := init_ok (H := H) (k := k)
  rw [← par_cl] at h1
  have ci := ci_disk (k := k + 1)
  have dl := (List.getElem?_eq_some_iff.mp h.at_).1
  have i1 := at_kept (k := k + 1) (h3.at h.at_)
  have i2 := dct_at (h3.at h.kept)
  have i1' := at_kept (k := k + 1) (get_app (J := [Ob.dct (fe kept)]) (h3.at h.at_))
  have i2' := dct_at (get_app (J := [Ob.dct (fe kept)]) (h3.at h.kept))
  have hA : DiskAt (H1 ++ [Ob.dct (fe kept)] ++ [Ob.dct (fe kept)]) H.length ka na wa [] [] [] .non 0 := h2.app.app
  have s1 := st_kept (k := k + 1) (v := H1.length) hA.at_
  have s2 := st_now (k := k + 1) (v := (H1 ++ [Ob.dct (fe kept)]).length) (set_at (x := DO H1.length na wa .non 0) hA.at_)
  rw [List.set_set] at s2
  have hl1 := h3.1
  have e : b22.ev (Pn (k + 1)) [some (.ref D), none] H = .rt (.ref H.length) ((H1 ++ [Ob.dct (fe kept)] ++ [Ob.dct (fe kept)]).set H.length (DO H1.length (H1 ++ [Ob.dct (fe kept)]).length wa .non 0)) := by
    simp -implicitDefEqProofs only [Stms.ev, Stm.ev, Ex.ev, Ex.evT, Exs.ev, Exs.evAnd, Exs.evOr, Exs.evTAnd, Exs.evTOr, Ox.ev, Ox.evT, Lx.ev, It.ev, v_c, v_bin, v_cmp, v_bl, v_isN, v_ntN, v_not, v_tru, v_asB, v_and, v_or, v_if, v_tup, v_nil, v_cons, v_sub, v_onone, v_osome, v_slice, v_call, v_glb, v_ofE, v_disp, v_cat, v_bi1, v_biL, v_isi, v_inS, v_sidx, v_join, v_subL, v_new, v_dct, v_lenSet, v_attr, v_meth, v_nox, v_dct0, v_dcp, v_dget, v_dpop, v_chain, v_tupE, v_min2, v_listT, v_sortS, v_neL, strE, refE, q_v_setI, q_v_setA, q_v_augA, q_v_parA, v_yes, v_itL, v_itA, v_itR1, v_itR2, v_lc, q_v_asg, q_v_par, q_v_setD, q_v_expr, q_v_app, q_v_if, q_v_for, q_v_ret, o_add, o_sub, c_lt, c_le, c_gt, c_ge, a_add, R.bind_ok, R.bind_ex, R.bind_bad, R.st_ok, R.st_ex, R.st_bad, RS.seq_nx, RS.seq_rt, RS.seq_ex, RS.seq_bk, RS.seq_ct, RS.seq_bad, optR_some, optR_none, Tg.set, setAll, asB, Lt.truthy, isNon, biLE, getL_tmp, getM_tmp, Option.isSome_some, reduceIte, if_true, if_false, Bool.false_eq_true, Option.map_some, w0, w1, w2, w3, w4, w5, w6, w7, w8, w9, w10, w11, w12, w13, w14, w15, w16, w17, w18, w19, w20, w21, w22, w23, w24, x0, x1, x2, x3, x4, x5, x6, x7, x8, x9, x10, x11, x12, x13, x14, x15, x16, x17, x18, x19, x20, x21, x22, x23, x24, z0, z1, z2, z3, z4, z5, z6, z7, z8, z9, z10, z11, z12, z13, z14, z15, z16, z17, z18, z19, z20, z21, z22, z23, z24, y0, y1, y2, y3, y4, y5, y6, y7, y8, y9, y10, y11, y12, y13, y14, y15, y16, y17, y18, y19, y20, y21, y22, y23, y24, b22, v_make, ci, ar0, h1, i1, i2, i1', i2', s1, s2]
  rw [e]
  have hh := (List.getElem?_eq_some_iff.mp h2.at_).1
  refine ⟨_, _, _, _, _, rfl, ⟨set_at hA.at_, ?_, ?_, ?_⟩, ⟨by rw [List.length_set]; simp; omega, fun i hi => ?_⟩⟩
  · rw [set_ne (by omega)]; exact get_app get_new
  · rw [set_ne (by simp; omega)]; exact get_new
  · rw [set_ne (by omega)]; exact hA.wait
  · rw [set_ne (by omega), List.append_assoc, List.getElem?_append_left (by omega), h3.2 i hi]
/-! ### what waits -/
def cnt1 (d : Dd) : Nat := match d.k with
  | .wr => (pcs d.p d.r 0).length
  | _ => 1
/-- a comprehension that leaves things behind -/
theorem lc_grow {α : Type} {st : Option Nat} {all : List E} {g h : α → E} {e : Sx E} {tg : Tg} {ρ : Ro} {H : Hq} (hst : ∀ J, staysB st all (H ++ J) = true)
    (he : ∀ (a : α) (J : Hq), ∃ ρ1 J2, tg.set (g a) ρ = some ρ1 ∧ e ρ1 (H ++ J) = .ok (h a) (H ++ J ++ J2)) : ∀ (l : List α) (acc : List E) (J : Hq), acc.length + l.length ≤ 16777216 →
    ∃ J2, lcS st all tg sYes e ρ (l.map g) acc (H ++ J) = .ok (acc ++ l.map h) (H ++ J ++ J2)
  | [], acc, J, _ => ⟨[], by rw [List.map_nil, lc_end (hst J)]; simp⟩
  | a :: l, acc, J, hl => by
    rw [List.length_cons] at hl
    obtain ⟨ρ1, J1, h1, h2⟩ := he a J
    rw [List.append_assoc] at h2
    obtain ⟨J2, h3⟩ := lc_grow hst he l (acc ++ [h a]) (J ++ J1) (by simp; omega)
    refine ⟨J1 ++ J2, ?_⟩
    rw [List.map_cons, lc_turn (hst J) h1 rfl h2 (by omega), h3]
    simp [List.append_assoc]
theorem asIs_map {α : Type} (g : α → Nat) : ∀ l : List α, asIs (l.map fun a => E.int (g a : Int)) = some (l.map fun a => (g a : Int))
  | [] => rfl
  | a :: l => by
    show (asIs (l.map fun a => E.int (g a : Int))).map (_ :: ·) = _
    rw [asIs_map g l]
    rfl
theorem waits_ok (h : DiskAt H D kd nd wd kept now w f s) (hw : w.length ≤ 1000) (hr : ∀ d ∈ w, d.r.length ≤ 50) : cl (k + 2) 21 [.ref D] H = .ok (.int ((w.map fun d => (cnt1 d : Int)).sum)) H := by
  rw [cl_succ (fn := f21) rfl rfl]
  show endR true H (b21.ev (Pn (k + 1)) [some (.ref D), none, none, none, none, none] H) = _
  have i1 := at_wait (k := k + 1) h.at_
  have i2 := it_at h.wait
  have key : ∀ (d : { d : Dd // d ∈ w }) (J : Hq), ∃ ρ1 J2, (Tg.tup [⟨2, "kind", ⟨89, 77, 89, 81⟩⟩, ⟨3, "_", ⟨89, 83, 89, 84⟩⟩, ⟨4, "place", ⟨89, 86, 89, 91⟩⟩, ⟨5, "row", ⟨89, 93, 89, 96⟩⟩] 0 ⟨89, 77, 89, 96⟩).set d.1.e [some (.ref D), none, none, none, none, none] = some ρ1 ∧ b21_0.ev (Pn (k + 1)) ρ1 (H ++ J) = .ok (.int (cnt1 d.1 : Int)) (H ++ J ++ J2) := by
    rintro ⟨⟨kd, n, p, r⟩, hd⟩ J
    refine ⟨[some (.ref D), none, some (.str kd.s), some (.str n), some (.int (p : Int)), some (.tup (nats r))], ?_⟩
    have hrr := hr _ hd
    cases kd with
    | wr =>
      have c := pieces_ok (k := k) (H := H ++ J) (p := p) (r := r) (by dsimp only at hrr; omega)
      rw [← par_cl] at c
      have hl : lenE (H ++ J ++ [.lst ((pcs p r 0).map pe)]) (.ref (H ++ J).length) = some (pcs p r 0).length := by
        rw [len_lst (xs := (pcs p r 0).map pe) get_new, List.length_map]
      have kk : decide (Kd.wr.s = ("write" : Str)) = true := by decide +kernel
      refine ⟨[.lst ((pcs p r 0).map pe)], rfl, ?_⟩
      simp -implicitDefEqProofs only [Stms.ev, Stm.ev, Ex.ev, Ex.evT, Exs.ev, Exs.evAnd, Exs.evOr, Exs.evTAnd, Exs.evTOr, Ox.ev, Ox.evT, Lx.ev, It.ev, v_c, v_bin, v_cmp, v_bl, v_isN, v_ntN, v_not, v_tru, v_asB, v_and, v_or, v_if, v_tup, v_nil, v_cons, v_sub, v_onone, v_osome, v_slice, v_call, v_glb, v_ofE, v_disp, v_cat, v_bi1, v_biL, v_isi, v_inS, v_sidx, v_join, v_subL, v_new, v_dct, v_lenSet, v_attr, v_meth, v_nox, v_dct0, v_dcp, v_dget, v_dpop, v_chain, v_tupE, v_min2, v_listT, v_sortS, v_neL, strE, refE, q_v_setI, q_v_setA, q_v_augA, q_v_parA, v_yes, v_itL, v_itA, v_itR1, v_itR2, v_lc, q_v_asg, q_v_par, q_v_setD, q_v_expr, q_v_app, q_v_if, q_v_for, q_v_ret, o_add, o_sub, c_lt, c_le, c_gt, c_ge, a_add, R.bind_ok, R.bind_ex, R.bind_bad, R.st_ok, R.st_ex, R.st_bad, RS.seq_nx, RS.seq_rt, RS.seq_ex, RS.seq_bk, RS.seq_ct, RS.seq_bad, optR_some, optR_none, Tg.set, setAll, asB, Lt.truthy, isNon, biLE, getL_tmp, getM_tmp, Option.isSome_some, reduceIte, if_true, if_false, Bool.false_eq_true, Option.map_some, w0, w1, w2, w3, w4, w5, w6, w7, w8, w9, w10, w11, w12, w13, w14, w15, w16, w17, w18, w19, w20, w21, w22, w23, w24, x0, x1, x2, x3, x4, x5, x6, x7, x8, x9, x10, x11, x12, x13, x14, x15, x16, x17, x18, x19, x20, x21, x22, x23, x24, z0, z1, z2, z3, z4, z5, z6, z7, z8, z9, z10, z11, z12, z13, z14, z15, z16, z17, z18, z19, z20, z21, z22, z23, z24, y0, y1, y2, y3, y4, y5, y6, y7, y8, y9, y10, y11, y12, y13, y14, y15, y16, y17, y18, y19, y20, y21, y22, y23, y24, b21_0, c_eqS, kk, c, hl, bi1E, cnt1]
    | ct =>
      have kk : decide (Kd.ct.s = ("write" : Str)) = false := by decide +kernel
      refine ⟨[], rfl, ?_⟩
      simp -implicitDefEqProofs only [Stms.ev, Stm.ev, Ex.ev, Ex.evT, Exs.ev, Exs.evAnd, Exs.evOr, Exs.evTAnd, Exs.evTOr, Ox.ev, Ox.evT, Lx.ev, It.ev, v_c, v_bin, v_cmp, v_bl, v_isN, v_ntN, v_not, v_tru, v_asB, v_and, v_or, v_if, v_tup, v_nil, v_cons, v_sub, v_onone, v_osome, v_slice, v_call, v_glb, v_ofE, v_disp, v_cat, v_bi1, v_biL, v_isi, v_inS, v_sidx, v_join, v_subL, v_new, v_dct, v_lenSet, v_attr, v_meth, v_nox, v_dct0, v_dcp, v_dget, v_dpop, v_chain, v_tupE, v_min2, v_listT, v_sortS, v_neL, strE, refE, q_v_setI, q_v_setA, q_v_augA, q_v_parA, v_yes, v_itL, v_itA, v_itR1, v_itR2, v_lc, q_v_asg, q_v_par, q_v_setD, q_v_expr, q_v_app, q_v_if, q_v_for, q_v_ret, o_add, o_sub, c_lt, c_le, c_gt, c_ge, a_add, R.bind_ok, R.bind_ex, R.bind_bad, R.st_ok, R.st_ex, R.st_bad, RS.seq_nx, RS.seq_rt, RS.seq_ex, RS.seq_bk, RS.seq_ct, RS.seq_bad, optR_some, optR_none, Tg.set, setAll, asB, Lt.truthy, isNon, biLE, getL_tmp, getM_tmp, Option.isSome_some, reduceIte, if_true, if_false, Bool.false_eq_true, Option.map_some, w0, w1, w2, w3, w4, w5, w6, w7, w8, w9, w10, w11, w12, w13, w14, w15, w16, w17, w18, w19, w20, w21, w22, w23, w24, x0, x1, x2, x3, x4, x5, x6, x7, x8, x9, x10, x11, x12, x13, x14, x15, x16, x17, x18, x19, x20, x21, x22, x23, x24, z0, z1, z2, z3, z4, z5, z6, z7, z8, z9, z10, z11, z12, z13, z14, z15, z16, z17, z18, z19, z20, z21, z22, z23, z24, y0, y1, y2, y3, y4, y5, y6, y7, y8, y9, y10, y11, y12, y13, y14, y15, y16, y17, y18, y19, y20, y21, y22, y23, y24, b21_0, c_eqS, kk, cnt1, List.append_nil]
      rfl
    | rm =>
      have kk : decide (Kd.rm.s = ("write" : Str)) = false := by decide +kernel
      refine ⟨[], rfl, ?_⟩
      simp -implicitDefEqProofs only [Stms.ev, Stm.ev, Ex.ev, Ex.evT, Exs.ev, Exs.evAnd, Exs.evOr, Exs.evTAnd, Exs.evTOr, Ox.ev, Ox.evT, Lx.ev, It.ev, v_c, v_bin, v_cmp, v_bl, v_isN, v_ntN, v_not, v_tru, v_asB, v_and, v_or, v_if, v_tup, v_nil, v_cons, v_sub, v_onone, v_osome, v_slice, v_call, v_glb, v_ofE, v_disp, v_cat, v_bi1, v_biL, v_isi, v_inS, v_sidx, v_join, v_subL, v_new, v_dct, v_lenSet, v_attr, v_meth, v_nox, v_dct0, v_dcp, v_dget, v_dpop, v_chain, v_tupE, v_min2, v_listT, v_sortS, v_neL, strE, refE, q_v_setI, q_v_setA, q_v_augA, q_v_parA, v_yes, v_itL, v_itA, v_itR1, v_itR2, v_lc, q_v_asg, q_v_par, q_v_setD, q_v_expr, q_v_app, q_v_if, q_v_for, q_v_ret, o_add, o_sub, c_lt, c_le, c_gt, c_ge, a_add, R.bind_ok, R.bind_ex, R.bind_bad, R.st_ok, R.st_ex, R.st_bad, RS.seq_nx, RS.seq_rt, RS.seq_ex, RS.seq_bk, RS.seq_ct, RS.seq_bad, optR_some, optR_none, Tg.set, setAll, asB, Lt.truthy, isNon, biLE, getL_tmp, getM_tmp, Option.isSome_some, reduceIte, if_true, if_false, Bool.false_eq_true, Option.map_some, w0, w1, w2, w3, w4, w5, w6, w7, w8, w9, w10, w11, w12, w13, w14, w15, w16, w17, w18, w19, w20, w21, w22, w23, w24, x0, x1, x2, x3, x4, x5, x6, x7, x8, x9, x10, x11, x12, x13, x14, x15, x16, x17, x18, x19, x20, x21, x22, x23, x24, z0, z1, z2, z3, z4, z5, z6, z7, z8, z9, z10, z11, z12, z13, z14, z15, z16, z17, z18, z19, z20, z21, z22, z23, z24, y0, y1, y2, y3, y4, y5, y6, y7, y8, y9, y10, y11, y12, y13, y14, y15, y16, y17, y18, y19, y20, y21, y22, y23, y24, b21_0, c_eqS, kk, cnt1, List.append_nil]
      rfl
  obtain ⟨J2, hlc⟩ := lc_grow (st := some wd) (all := w.map Dd.e) (g := fun d : { d : Dd // d ∈ w } => d.1.e) (h := fun d => E.int (cnt1 d.1 : Int)) (H := H) (fun J => stays_at (get_app h.wait)) key w.attach [] [] (by simp; omega)
  rw [List.append_nil, List.nil_append] at hlc
  have m1 : (w.attach.map fun d : { d : Dd // d ∈ w } => d.1.e) = w.map Dd.e := by
    rw [← List.attach_map_val (f := Dd.e)]
  have m2 : (w.attach.map fun d : { d : Dd // d ∈ w } => E.int (cnt1 d.1 : Int)) = w.map fun d => E.int (cnt1 d : Int) := by
    rw [← List.attach_map_val (f := fun d => E.int (cnt1 d : Int))]
  rw [m1, m2] at hlc
  have as := asIs_map cnt1 w
  have e : b21.ev (Pn (k + 1)) [some (.ref D), none, none, none, none, none] H = .rt (.int ((w.map fun d => (cnt1 d : Int)).sum)) (H ++ J2) := by
    simp -implicitDefEqProofs only [Stms.ev, Stm.ev, Ex.ev, Ex.evT, Exs.ev, Exs.evAnd, Exs.evOr, Exs.evTAnd, Exs.evTOr, Ox.ev, Ox.evT, Lx.ev, It.ev, v_c, v_bin, v_cmp, v_bl, v_isN, v_ntN, v_not, v_tru, v_asB, v_and, v_or, v_if, v_tup, v_nil, v_cons, v_sub, v_onone, v_osome, v_slice, v_call, v_glb, v_ofE, v_disp, v_cat, v_bi1, v_biL, v_isi, v_inS, v_sidx, v_join, v_subL, v_new, v_dct, v_lenSet, v_attr, v_meth, v_nox, v_dct0, v_dcp, v_dget, v_dpop, v_chain, v_tupE, v_min2, v_listT, v_sortS, v_neL, strE, refE, q_v_setI, q_v_setA, q_v_augA, q_v_parA, v_yes, v_itL, v_itA, v_itR1, v_itR2, v_lc, q_v_asg, q_v_par, q_v_setD, q_v_expr, q_v_app, q_v_if, q_v_for, q_v_ret, o_add, o_sub, c_lt, c_le, c_gt, c_ge, a_add, R.bind_ok, R.bind_ex, R.bind_bad, R.st_ok, R.st_ex, R.st_bad, RS.seq_nx, RS.seq_rt, RS.seq_ex, RS.seq_bk, RS.seq_ct, RS.seq_bad, optR_some, optR_none, Tg.set, setAll, asB, Lt.truthy, isNon, biLE, getL_tmp, getM_tmp, Option.isSome_some, reduceIte, if_true, if_false, Bool.false_eq_true, Option.map_some, w0, w1, w2, w3, w4, w5, w6, w7, w8, w9, w10, w11, w12, w13, w14, w15, w16, w17, w18, w19, w20, w21, w22, w23, w24, x0, x1, x2, x3, x4, x5, x6, x7, x8, x9, x10, x11, x12, x13, x14, x15, x16, x17, x18, x19, x20, x21, x22, x23, x24, z0, z1, z2, z3, z4, z5, z6, z7, z8, z9, z10, z11, z12, z13, z14, z15, z16, z17, z18, z19, z20, z21, z22, z23, z24, y0, y1, y2, y3, y4, y5, y6, y7, y8, y9, y10, y11, y12, y13, y14, y15, y16, y17, y18, y19, y20, y21, y22, y23, y24, b21, i1, i2, wipeR, List.map_cons, List.map_nil, hlc, as]
  rw [e]
  exact endR_rt rfl
end
end K02
end
section
set_option Elab.async false
set_option linter.all false
set_option maxRecDepth 100000
set_option maxHeartbeats 1000000
/-! k02: what is lost. -/
namespace K02
open PySem Lt
def pk (ps : List Nat) (i : Nat) : Nat := (ps[i]?).getD 0
def keepB (fl : Fl) (d : Dd) : Bool := match d.k with
  | .rm => true
  | _ => decide (d.p ≤ (getF fl d.n).length)
def sub1 (d : Dd) (x : Nat × List Nat) : Dd := ⟨d.k, d.n, x.1, x.2⟩
def ls1 (ps : List Nat) (d : Dd) (a : Fl × Nat) (x : Nat × List Nat) : Fl × Nat := (if (decide (pk ps a.2 % 2 = 1) && keepB a.1 (sub1 d x)) = true then done a.1 (sub1 d x) else a.1, a.2 + 1)
def pcD (d : Dd) : List (Nat × List Nat) := match d.k with
  | .wr => pcs d.p d.r 0
  | _ => [(d.p, d.r)]
def lsD (ps : List Nat) (a : Fl × Nat) (d : Dd) : Fl × Nat := (pcD d).foldl (ls1 ps d) a
def lost (ps : List Nat) (w : List Dd) (fl : Fl) : Fl := (w.foldl (lsD ps) (fl, 0)).1
def sums (xs : List (Nat × List Nat)) : Nat := (xs.map fun x => x.2.length).sum
theorem sums_cons (x : Nat × List Nat) (xs : List (Nat × List Nat)) : sums (x :: xs) = x.2.length + sums xs := by simp [sums]
theorem pcs_sum {p : Nat} {r : List Nat} : ∀ (m at_ : Nat), r.length - at_ ≤ m → sums (pcs p r at_) ≤ r.length - at_
  | 0, at_, h => by rw [pcs_end (by omega)]; simp [sums]
  | m + 1, at_, h => by
    by_cases hl : at_ < r.length
    · rw [pcs_more hl, sums_cons]
      have := pcs_sum (p := p) (r := r) m (at_ + min (r.length - at_) (16 - (p + at_) % 16)) (by omega)
      have h2 : ((r.drop at_).take (min (r.length - at_) (16 - (p + at_) % 16))).length ≤ min (r.length - at_) (16 - (p + at_) % 16) := by rw [List.length_take]; omega
      show ((r.drop at_).take (min (r.length - at_) (16 - (p + at_) % 16))).length + _ ≤ _
      omega
    · rw [pcs_end hl]; simp [sums]
theorem pcD_sum (d : Dd) : sums (pcD d) ≤ d.r.length := by
  unfold pcD
  cases d.k with
  | wr => exact pcs_sum d.r.length 0 (by omega)
  | ct => simp [sums]
  | rm => simp [sums]
theorem pcD_len (d : Dd) : (pcD d).length ≤ d.r.length + 1 := by
  unfold pcD
  cases d.k with
  | wr => have := pcs_len (p := d.p) (r := d.r) d.r.length 0 (by omega); dsimp only; omega
  | ct => simp
  | rm => simp
theorem Gd.ls1 {ps : List Nat} {d : Dd} {fl : Fl} {i M : Nat} {x : Nat × List Nat} (h : Gd fl M) (hn : d.n ∈ names4) : Gd (K02.ls1 ps d (fl, i) x).1 (M + x.2.length) := by
  unfold K02.ls1
  dsimp only
  split
  · exact h.done (d := sub1 d x) hn (Nat.le_refl _)
  · exact h.mono (by omega)
theorem ls1_at {ps : List Nat} {d : Dd} {a : Fl × Nat} {x : Nat × List Nat} : (ls1 ps d a x).2 = a.2 + 1 := rfl
theorem lsF_at {ps : List Nat} {d : Dd} : ∀ (xs : List (Nat × List Nat)) (a : Fl × Nat), (xs.foldl (ls1 ps d) a).2 = a.2 + xs.length
  | [], a => rfl
  | x :: xs, a => by
    rw [List.foldl_cons, lsF_at xs, ls1_at, List.length_cons]
    omega
theorem Gd.lsF {ps : List Nat} {d : Dd} (hn : d.n ∈ names4) : ∀ (xs : List (Nat × List Nat)) (fl : Fl) (i M : Nat), Gd fl M → Gd (xs.foldl (K02.ls1 ps d) (fl, i)).1 (M + sums xs)
  | [], fl, i, M, h => h
  | x :: xs, fl, i, M, h => by
    rw [List.foldl_cons, sums_cons, ← Nat.add_assoc]
    exact Gd.lsF hn xs _ _ _ (h.ls1 hn)
theorem Gd.lsD {ps : List Nat} {d : Dd} {fl : Fl} {i M : Nat} (h : Gd fl M) (hn : d.n ∈ names4) : Gd (K02.lsD ps (fl, i) d).1 (M + d.r.length) := (h.lsF hn (pcD d) fl i M).mono (by have := pcD_sum d; omega)
theorem Gd.lsA {ps : List Nat} {R : Nat} : ∀ (w : List Dd) (a : Fl × Nat) (M : Nat), Gd a.1 M → (∀ d ∈ w, d.n ∈ names4 ∧ d.r.length ≤ R) → Gd (w.foldl (K02.lsD ps) a).1 (M + R * w.length)
  | [], a, M, h, _ => h
  | d :: w, (fl, i), M, h, hd => by
    have h1 := (Gd.lsD (ps := ps) (i := i) h (hd d List.mem_cons_self).1).mono (show M + d.r.length ≤ M + R by have := (hd d List.mem_cons_self).2; omega)
    have h2 := Gd.lsA (ps := ps) w _ _ h1 fun x hx => hd x (List.mem_cons_of_mem _ hx)
    refine h2.mono ?_
    rw [List.length_cons, Nat.mul_succ]
    omega
theorem c_neS {a b : Str} : cmpop .ne (.str a) (.str b) = some (!decide (a = b)) := by
  show (eqE (.str a) (.str b)).map _ = _
  rw [show eqE (.str a) (.str b) = some (decide (a = b)) from c_eqS]
  rfl
section
variable {H : Hq} {D kd nd wd k : Nat} {f : E} {s : Int} {kept now : Fl} {w : List Dd}
theorem lose_pick {ps : List Nat} {i : Nat} {s0 s3 s4 s5 s6 s7 s8 s9 s10 : Option E} : (hdS b20_0).ev (Pn k) [s0, some (.tup (nats ps)), some (.int (i : Int)), s3, s4, s5, s6, s7, s8, s9, s10] H = .nx [s0, some (.tup (nats ps)), some (.int (i : Int)), s3, s4, s5, s6, s7, s8, s9, some (.int ((pk ps i : Nat) : Int))] H := by
  unfold pk
  cases h : ps[i]? with
  | some a =>
    have hi := (List.getElem?_eq_some_iff.mp h).1
    have c : decide ((i : Int) < (ps.length : Int)) = true := decide_eq_true (by omega)
    have hs := sub_nats (H := H) h
    simp -implicitDefEqProofs only [Stms.ev, Stm.ev, Ex.ev, Ex.evT, Exs.ev, Exs.evAnd, Exs.evOr, Exs.evTAnd, Exs.evTOr, Ox.ev, Ox.evT, Lx.ev, It.ev, v_c, v_bin, v_cmp, v_bl, v_isN, v_ntN, v_not, v_tru, v_asB, v_and, v_or, v_if, v_tup, v_nil, v_cons, v_sub, v_onone, v_osome, v_slice, v_call, v_glb, v_ofE, v_disp, v_cat, v_bi1, v_biL, v_isi, v_inS, v_sidx, v_join, v_subL, v_new, v_dct, v_lenSet, v_attr, v_meth, v_nox, v_dct0, v_dcp, v_dget, v_dpop, v_chain, v_tupE, v_min2, v_listT, v_sortS, v_neL, strE, refE, q_v_setI, q_v_setA, q_v_augA, q_v_parA, v_yes, v_itL, v_itA, v_itR1, v_itR2, v_lc, q_v_asg, q_v_par, q_v_setD, q_v_expr, q_v_app, q_v_if, q_v_for, q_v_ret, o_add, o_sub, c_lt, c_le, c_gt, c_ge, a_add, R.bind_ok, R.bind_ex, R.bind_bad, R.st_ok, R.st_ex, R.st_bad, RS.seq_nx, RS.seq_rt, RS.seq_ex, RS.seq_bk, RS.seq_ct, RS.seq_bad, optR_some, optR_none, Tg.set, setAll, asB, Lt.truthy, isNon, biLE, getL_tmp, getM_tmp, Option.isSome_some, reduceIte, if_true, if_false, Bool.false_eq_true, Option.map_some, w0, w1, w2, w3, w4, w5, w6, w7, w8, w9, w10, w11, w12, w13, w14, w15, w16, w17, w18, w19, w20, w21, w22, w23, w24, x0, x1, x2, x3, x4, x5, x6, x7, x8, x9, x10, x11, x12, x13, x14, x15, x16, x17, x18, x19, x20, x21, x22, x23, x24, z0, z1, z2, z3, z4, z5, z6, z7, z8, z9, z10, z11, z12, z13, z14, z15, z16, z17, z18, z19, z20, z21, z22, z23, z24, y0, y1, y2, y3, y4, y5, y6, y7, y8, y9, y10, y11, y12, y13, y14, y15, y16, y17, y18, y19, y20, y21, y22, y23, y24, b20_0, hdS, len_tup, bi1E, c, hs]
    rfl
  | none =>
    have hi := List.getElem?_eq_none_iff.mp h
    have c : decide ((i : Int) < (ps.length : Int)) = false := decide_eq_false (by omega)
    simp -implicitDefEqProofs only [Stms.ev, Stm.ev, Ex.ev, Ex.evT, Exs.ev, Exs.evAnd, Exs.evOr, Exs.evTAnd, Exs.evTOr, Ox.ev, Ox.evT, Lx.ev, It.ev, v_c, v_bin, v_cmp, v_bl, v_isN, v_ntN, v_not, v_tru, v_asB, v_and, v_or, v_if, v_tup, v_nil, v_cons, v_sub, v_onone, v_osome, v_slice, v_call, v_glb, v_ofE, v_disp, v_cat, v_bi1, v_biL, v_isi, v_inS, v_sidx, v_join, v_subL, v_new, v_dct, v_lenSet, v_attr, v_meth, v_nox, v_dct0, v_dcp, v_dget, v_dpop, v_chain, v_tupE, v_min2, v_listT, v_sortS, v_neL, strE, refE, q_v_setI, q_v_setA, q_v_augA, q_v_parA, v_yes, v_itL, v_itA, v_itR1, v_itR2, v_lc, q_v_asg, q_v_par, q_v_setD, q_v_expr, q_v_app, q_v_if, q_v_for, q_v_ret, o_add, o_sub, c_lt, c_le, c_gt, c_ge, a_add, R.bind_ok, R.bind_ex, R.bind_bad, R.st_ok, R.st_ex, R.st_bad, RS.seq_nx, RS.seq_rt, RS.seq_ex, RS.seq_bk, RS.seq_ct, RS.seq_bad, optR_some, optR_none, Tg.set, setAll, asB, Lt.truthy, isNon, biLE, getL_tmp, getM_tmp, Option.isSome_some, reduceIte, if_true, if_false, Bool.false_eq_true, Option.map_some, w0, w1, w2, w3, w4, w5, w6, w7, w8, w9, w10, w11, w12, w13, w14, w15, w16, w17, w18, w19, w20, w21, w22, w23, w24, x0, x1, x2, x3, x4, x5, x6, x7, x8, x9, x10, x11, x12, x13, x14, x15, x16, x17, x18, x19, x20, x21, x22, x23, x24, z0, z1, z2, z3, z4, z5, z6, z7, z8, z9, z10, z11, z12, z13, z14, z15, z16, z17, z18, z19, z20, z21, z22, z23, z24, y0, y1, y2, y3, y4, y5, y6, y7, y8, y9, y10, y11, y12, y13, y14, y15, y16, y17, y18, y19, y20, y21, y22, y23, y24, b20_0, hdS, len_tup, bi1E, c]
    rfl
theorem lose_turn {d : Dd} {x : Nat × List Nat} {ps : List Nat} {i M : Nat} {s1 s5 s6 s7 : Option E} (h : DiskAt H D kd nd wd kept now w f s) (hG : Gd kept M) (hn : d.n ∈ names4) (hM : M + x.2.length ≤ 50000) :
    ∃ H' kd', (tlS b20_0).ev (Pn (k + 1)) [some (.ref D), s1, some (.int (i : Int)), some (.str d.k.s), some (.str d.n), s5, s6, s7, some (.int (x.1 : Int)), some (.tup (nats x.2)), some (.int ((pk ps i : Nat) : Int))] H = .nx [some (.ref D), s1, some (.int ((i + 1 : Nat) : Int)), some (.str d.k.s), some (.str d.n), s5, s6, s7, some (.int (x.1 : Int)), some (.tup (nats x.2)), some (.int ((pk ps i : Nat) : Int))] H' ∧
      DiskAt H' D kd' nd wd (ls1 ps d (kept, i) x).1 now w f s ∧ Fr D wd H H' ∧ ∀ j, j < H.length → j ≠ D → H'[j]? = H[j]? := by
  have q2 : (0 : Int) < 2 := by decide
  have aadd : augop .add (.int (i : Int)) (.int 1) = some (.int ((i + 1 : Nat) : Int)) := rfl
  have h1 := at_kept (k := k + 1) h.at_
  have hd1 := dct_at h.kept
  have g0 : ([] : List E).length ≤ sizeLine := le_line (by simp)
  have h2 := done_ok (k := k) (d := sub1 d x) h.kept (hG.fit (d := sub1 d x) (by show M + x.2.length ≤ _; omega)) (hG.h40 (d := sub1 d x) hn)
  rw [← par_cl] at h2
  have h2 : (Pn (k + 1)).cl 1 [.ref kd, .str d.k.s, .str d.n, .int (x.1 : Int), .tup (nats x.2)] H = .ok (.ref H.length) (H ++ [.dct (fe (done kept (sub1 d x)))]) := h2
  have hA : DiskAt (H ++ [Ob.dct (fe (done kept (sub1 d x)))]) D kd nd wd kept now w f s := h.app
  have h3 := st_kept (k := k + 1) (v := H.length) hA.at_
  have hlt := (List.getElem?_eq_some_iff.mp h.at_).1
  have hnew : (H ++ [Ob.dct (fe (done kept (sub1 d x)))])[H.length]? = some (.dct (fe (done kept (sub1 d x)))) := get_new
  have hB : DiskAt ((H ++ [Ob.dct (fe (done kept (sub1 d x)))]).set D (DO H.length nd wd f s)) D H.length nd wd (done kept (sub1 d x)) now w f s :=
    ⟨set_at hA.at_, by rw [set_ne (by omega)]; exact hnew, by rw [set_ne (dct_ne hA.at_ hA.now)]; exact hA.now, by rw [set_ne (lst_ne hA.at_ hA.wait)]; exact hA.wait⟩
  have hF : Fr D wd H ((H ++ [Ob.dct (fe (done kept (sub1 d x)))]).set D (DO H.length nd wd f s)) := Fr.app.trans Fr.set (.inl rfl)
  have hJ : ∀ j, j < H.length → j ≠ D → ((H ++ [Ob.dct (fe (done kept (sub1 d x)))]).set D (DO H.length nd wd f s))[j]? = H[j]? := fun j hj hjD => by rw [set_ne hjD, List.getElem?_append_left hj]
  have no : ∀ (hk : (ls1 ps d (kept, i) x).1 = kept), (tlS b20_0).ev (Pn (k + 1)) [some (.ref D), s1, some (.int (i : Int)), some (.str d.k.s), some (.str d.n), s5, s6, s7, some (.int (x.1 : Int)), some (.tup (nats x.2)), some (.int ((pk ps i : Nat) : Int))] H = .nx [some (.ref D), s1, some (.int ((i + 1 : Nat) : Int)), some (.str d.k.s), some (.str d.n), s5, s6, s7, some (.int (x.1 : Int)), some (.tup (nats x.2)), some (.int ((pk ps i : Nat) : Int))] H → ∃ H' kd', (tlS b20_0).ev (Pn (k + 1)) [some (.ref D), s1, some (.int (i : Int)), some (.str d.k.s), some (.str d.n), s5, s6, s7, some (.int (x.1 : Int)), some (.tup (nats x.2)), some (.int ((pk ps i : Nat) : Int))] H = .nx [some (.ref D), s1, some (.int ((i + 1 : Nat) : Int)), some (.str d.k.s), some (.str d.n), s5, s6, s7, some (.int (x.1 : Int)), some (.tup (nats x.2)), some (.int ((pk ps i : Nat) : Int))] H' ∧ DiskAt H' D kd' nd wd (ls1 ps d (kept, i) x).1 now w f s ∧ Fr D wd H H' ∧ ∀ j, j < H.length → j ≠ D → H'[j]? = H[j]? := fun hk e => ⟨H, kd, e, by rw [hk]; exact h, Fr.refl, fun _ _ _ => rfl⟩
  have yes : ∀ (hk : (ls1 ps d (kept, i) x).1 = done kept (sub1 d x)), (tlS b20_0).ev (Pn (k + 1)) [some (.ref D), s1, some (.int (i : Int)), some (.str d.k.s), some (.str d.n), s5, s6, s7, some (.int (x.1 : Int)), some (.tup (nats x.2)), some (.int ((pk ps i : Nat) : Int))] H = .nx [some (.ref D), s1, some (.int ((i + 1 : Nat) : Int)), some (.str d.k.s), some (.str d.n), s5, s6, s7, some (.int (x.1 : Int)), some (.tup (nats x.2)), some (.int ((pk ps i : Nat) : Int))] ((H ++ [Ob.dct (fe (done kept (sub1 d x)))]).set D (DO H.length nd wd f s)) → ∃ H' kd', (tlS b20_0).ev (Pn (k + 1)) [some (.ref D), s1, some (.int (i : Int)), some (.str d.k.s), some (.str d.n), s5, s6, s7, some (.int (x.1 : Int)), some (.tup (nats x.2)), some (.int ((pk ps i : Nat) : Int))] H = .nx [some (.ref D), s1, some (.int ((i + 1 : Nat) : Int)), some (.str d.k.s), some (.str d.n), s5, s6, s7, some (.int (x.1 : Int)), some (.tup (nats x.2)), some (.int ((pk ps i : Nat) : Int))] H' ∧ DiskAt H' D kd' nd wd (ls1 ps d (kept, i) x).1 now w f s ∧ Fr D wd H H' ∧ ∀ j, j < H.length → j ≠ D → H'[j]? = H[j]? := fun hk e => ⟨_, H.length, e, by rw [hk]; exact hB, hF, hJ⟩
  by_cases hp : pk ps i % 2 = 1
  · have c : decide (((pk ps i : Nat) : Int) % 2 = 1) = true := decide_eq_true (by omega)
    have k1 : (ls1 ps d (kept, i) x).1 = if keepB kept (sub1 d x) = true then done kept (sub1 d x) else kept := by
      unfold ls1
      dsimp only
      rw [decide_eq_true hp, Bool.true_and]
    by_cases hl : x.1 ≤ (getF kept d.n).length
    · have c2 : decide ((x.1 : Int) ≤ ((getF kept d.n).length : Int)) = true := decide_eq_true (by omega)
      have kk : keepB kept (sub1 d x) = true := by
        unfold keepB sub1
        cases d.k with
        | rm => rfl
        | ct => exact decide_eq_true hl
        | wr => exact decide_eq_true hl
      refine yes (by rw [k1, if_pos kk]) ?_
      cases hk : d.k with
      | rm =>
        rw [hk] at h2
        have n1 : decide (Kd.rm.s = ("write" : Str)) = false := by decide +kernel
        have n2 : decide (Kd.rm.s = ("cut" : Str)) = false := by decide +kernel
        simp -implicitDefEqProofs only [Stms.ev, Stm.ev, Ex.ev, Ex.evT, Exs.ev, Exs.evAnd, Exs.evOr, Exs.evTAnd, Exs.evTOr, Ox.ev, Ox.evT, Lx.ev, It.ev, v_c, v_bin, v_cmp, v_bl, v_isN, v_ntN, v_not, v_tru, v_asB, v_and, v_or, v_if, v_tup, v_nil, v_cons, v_sub, v_onone, v_osome, v_slice, v_call, v_glb, v_ofE, v_disp, v_cat, v_bi1, v_biL, v_isi, v_inS, v_sidx, v_join, v_subL, v_new, v_dct, v_lenSet, v_attr, v_meth, v_nox, v_dct0, v_dcp, v_dget, v_dpop, v_chain, v_tupE, v_min2, v_listT, v_sortS, v_neL, strE, refE, q_v_setI, q_v_setA, q_v_augA, q_v_parA, v_yes, v_itL, v_itA, v_itR1, v_itR2, v_lc, q_v_asg, q_v_par, q_v_setD, q_v_expr, q_v_app, q_v_if, q_v_for, q_v_ret, o_add, o_sub, c_lt, c_le, c_gt, c_ge, a_add, R.bind_ok, R.bind_ex, R.bind_bad, R.st_ok, R.st_ex, R.st_bad, RS.seq_nx, RS.seq_rt, RS.seq_ex, RS.seq_bk, RS.seq_ct, RS.seq_bad, optR_some, optR_none, Tg.set, setAll, asB, Lt.truthy, isNon, biLE, getL_tmp, getM_tmp, Option.isSome_some, reduceIte, if_true, if_false, Bool.false_eq_true, Option.map_some, w0, w1, w2, w3, w4, w5, w6, w7, w8, w9, w10, w11, w12, w13, w14, w15, w16, w17, w18, w19, w20, w21, w22, w23, w24, x0, x1, x2, x3, x4, x5, x6, x7, x8, x9, x10, x11, x12, x13, x14, x15, x16, x17, x18, x19, x20, x21, x22, x23, x24, z0, z1, z2, z3, z4, z5, z6, z7, z8, z9, z10, z11, z12, z13, z14, z15, z16, z17, z18, z19, z20, z21, z22, z23, z24, y0, y1, y2, y3, y4, y5, y6, y7, y8, y9, y10, y11, y12, y13, y14, y15, y16, y17, y18, y19, y20, y21, y22, y23, y24, b20_0, tlS, aadd, o_mod q2, c_eqI, c, c_neS, n1, n2, Bool.not_false, h1, h2, h3]
      | ct =>
        rw [hk] at h2
        have n1 : decide (Kd.ct.s = ("write" : Str)) = false := by decide +kernel
        have n2 : decide (Kd.ct.s = ("cut" : Str)) = true := by decide +kernel
        simp -implicitDefEqProofs only [Stms.ev, Stm.ev, Ex.ev, Ex.evT, Exs.ev, Exs.evAnd, Exs.evOr, Exs.evTAnd, Exs.evTOr, Ox.ev, Ox.evT, Lx.ev, It.ev, v_c, v_bin, v_cmp, v_bl, v_isN, v_ntN, v_not, v_tru, v_asB, v_and, v_or, v_if, v_tup, v_nil, v_cons, v_sub, v_onone, v_osome, v_slice, v_call, v_glb, v_ofE, v_disp, v_cat, v_bi1, v_biL, v_isi, v_inS, v_sidx, v_join, v_subL, v_new, v_dct, v_lenSet, v_attr, v_meth, v_nox, v_dct0, v_dcp, v_dget, v_dpop, v_chain, v_tupE, v_min2, v_listT, v_sortS, v_neL, strE, refE, q_v_setI, q_v_setA, q_v_augA, q_v_parA, v_yes, v_itL, v_itA, v_itR1, v_itR2, v_lc, q_v_asg, q_v_par, q_v_setD, q_v_expr, q_v_app, q_v_if, q_v_for, q_v_ret, o_add, o_sub, c_lt, c_le, c_gt, c_ge, a_add, R.bind_ok, R.bind_ex, R.bind_bad, R.st_ok, R.st_ex, R.st_bad, RS.seq_nx, RS.seq_rt, RS.seq_ex, RS.seq_bk, RS.seq_ct, RS.seq_bad, optR_some, optR_none, Tg.set, setAll, asB, Lt.truthy, isNon, biLE, getL_tmp, getM_tmp, Option.isSome_some, reduceIte, if_true, if_false, Bool.false_eq_true, Option.map_some, w0, w1, w2, w3, w4, w5, w6, w7, w8, w9, w10, w11, w12, w13, w14, w15, w16, w17, w18, w19, w20, w21, w22, w23, w24, x0, x1, x2, x3, x4, x5, x6, x7, x8, x9, x10, x11, x12, x13, x14, x15, x16, x17, x18, x19, x20, x21, x22, x23, x24, z0, z1, z2, z3, z4, z5, z6, z7, z8, z9, z10, z11, z12, z13, z14, z15, z16, z17, z18, z19, z20, z21, z22, z23, z24, y0, y1, y2, y3, y4, y5, y6, y7, y8, y9, y10, y11, y12, y13, y14, y15, y16, y17, y18, y19, y20, y21, y22, y23, y24, b20_0, tlS, aadd, o_mod q2, c_eqI, c, c_neS, n1, n2, Bool.not_false, Bool.not_true, h1, hd1, g0, fe_get, len_tup, bi1E, c2, h2, h3]
      | wr =>
        rw [hk] at h2
        have n1 : decide (Kd.wr.s = ("write" : Str)) = true := by decide +kernel
        have n2 : decide (Kd.wr.s = ("cut" : Str)) = false := by decide +kernel
        simp -implicitDefEqProofs only [Stms.ev, Stm.ev, Ex.ev, Ex.evT, Exs.ev, Exs.evAnd, Exs.evOr, Exs.evTAnd, Exs.evTOr, Ox.ev, Ox.evT, Lx.ev, It.ev, v_c, v_bin, v_cmp, v_bl, v_isN, v_ntN, v_not, v_tru, v_asB, v_and, v_or, v_if, v_tup, v_nil, v_cons, v_sub, v_onone, v_osome, v_slice, v_call, v_glb, v_ofE, v_disp, v_cat, v_bi1, v_biL, v_isi, v_inS, v_sidx, v_join, v_subL, v_new, v_dct, v_lenSet, v_attr, v_meth, v_nox, v_dct0, v_dcp, v_dget, v_dpop, v_chain, v_tupE, v_min2, v_listT, v_sortS, v_neL, strE, refE, q_v_setI, q_v_setA, q_v_augA, q_v_parA, v_yes, v_itL, v_itA, v_itR1, v_itR2, v_lc, q_v_asg, q_v_par, q_v_setD, q_v_expr, q_v_app, q_v_if, q_v_for, q_v_ret, o_add, o_sub, c_lt, c_le, c_gt, c_ge, a_add, R.bind_ok, R.bind_ex, R.bind_bad, R.st_ok, R.st_ex, R.st_bad, RS.seq_nx, RS.seq_rt, RS.seq_ex, RS.seq_bk, RS.seq_ct, RS.seq_bad, optR_some, optR_none, Tg.set, setAll, asB, Lt.truthy, isNon, biLE, getL_tmp, getM_tmp, Option.isSome_some, reduceIte, if_true, if_false, Bool.false_eq_true, Option.map_some, w0, w1, w2, w3, w4, w5, w6, w7, w8, w9, w10, w11, w12, w13, w14, w15, w16, w17, w18, w19, w20, w21, w22, w23, w24, x0, x1, x2, x3, x4, x5, x6, x7, x8, x9, x10, x11, x12, x13, x14, x15, x16, x17, x18, x19, x20, x21, x22, x23, x24, z0, z1, z2, z3, z4, z5, z6, z7, z8, z9, z10, z11, z12, z13, z14, z15, z16, z17, z18, z19, z20, z21, z22, z23, z24, y0, y1, y2, y3, y4, y5, y6, y7, y8, y9, y10, y11, y12, y13, y14, y15, y16, y17, y18, y19, y20, y21, y22, y23, y24, b20_0, tlS, aadd, o_mod q2, c_eqI, c, c_neS, n1, n2, Bool.not_false, Bool.not_true, h1, hd1, g0, fe_get, len_tup, bi1E, c2, h2, h3]
    · have c2 : decide ((x.1 : Int) ≤ ((getF kept d.n).length : Int)) = false := decide_eq_false (by omega)
      cases hk : d.k with
      | rm =>
        have kk : keepB kept (sub1 d x) = true := by
          unfold keepB sub1
          rw [hk]
        rw [hk] at h2 yes
        refine yes (by rw [k1, if_pos kk]) ?_
        have n1 : decide (Kd.rm.s = ("write" : Str)) = false := by decide +kernel
        have n2 : decide (Kd.rm.s = ("cut" : Str)) = false := by decide +kernel
        simp -implicitDefEqProofs only [Stms.ev, Stm.ev, Ex.ev, Ex.evT, Exs.ev, Exs.evAnd, Exs.evOr, Exs.evTAnd, Exs.evTOr, Ox.ev, Ox.evT, Lx.ev, It.ev, v_c, v_bin, v_cmp, v_bl, v_isN, v_ntN, v_not, v_tru, v_asB, v_and, v_or, v_if, v_tup, v_nil, v_cons, v_sub, v_onone, v_osome, v_slice, v_call, v_glb, v_ofE, v_disp, v_cat, v_bi1, v_biL, v_isi, v_inS, v_sidx, v_join, v_subL, v_new, v_dct, v_lenSet, v_attr, v_meth, v_nox, v_dct0, v_dcp, v_dget, v_dpop, v_chain, v_tupE, v_min2, v_listT, v_sortS, v_neL, strE, refE, q_v_setI, q_v_setA, q_v_augA, q_v_parA, v_yes, v_itL, v_itA, v_itR1, v_itR2, v_lc, q_v_asg, q_v_par, q_v_setD, q_v_expr, q_v_app, q_v_if, q_v_for, q_v_ret, o_add, o_sub, c_lt, c_le, c_gt, c_ge, a_add, R.bind_ok, R.bind_ex, R.bind_bad, R.st_ok, R.st_ex, R.st_bad, RS.seq_nx, RS.seq_rt, RS.seq_ex, RS.seq_bk, RS.seq_ct, RS.seq_bad, optR_some, optR_none, Tg.set, setAll, asB, Lt.truthy, isNon, biLE, getL_tmp, getM_tmp, Option.isSome_some, reduceIte, if_true, if_false, Bool.false_eq_true, Option.map_some, w0, w1, w2, w3, w4, w5, w6, w7, w8, w9, w10, w11, w12, w13, w14, w15, w16, w17, w18, w19, w20, w21, w22, w23, w24, x0, x1, x2, x3, x4, x5, x6, x7, x8, x9, x10, x11, x12, x13, x14, x15, x16, x17, x18, x19, x20, x21, x22, x23, x24, z0, z1, z2, z3, z4, z5, z6, z7, z8, z9, z10, z11, z12, z13, z14, z15, z16, z17, z18, z19, z20, z21, z22, z23, z24, y0, y1, y2, y3, y4, y5, y6, y7, y8, y9, y10, y11, y12, y13, y14, y15, y16, y17, y18, y19, y20, y21, y22, y23, y24, b20_0, tlS, aadd, o_mod q2, c_eqI, c, c_neS, n1, n2, Bool.not_false, h1, h2, h3]
      | ct =>
        have kk : keepB kept (sub1 d x) = false := by
          unfold keepB sub1
          rw [hk]
          exact decide_eq_false hl
        rw [hk] at no
        refine no (by rw [k1, kk]; rfl) ?_
        have n1 : decide (Kd.ct.s = ("write" : Str)) = false := by decide +kernel
        have n2 : decide (Kd.ct.s = ("cut" : Str)) = true := by decide +kernel
        simp -implicitDefEqProofs only [Stms.ev, Stm.ev, Ex.ev, Ex.evT, Exs.ev, Exs.evAnd, Exs.evOr, Exs.evTAnd, Exs.evTOr, Ox.ev, Ox.evT, Lx.ev, It.ev, v_c, v_bin, v_cmp, v_bl, v_isN, v_ntN, v_not, v_tru, v_asB, v_and, v_or, v_if, v_tup, v_nil, v_cons, v_sub, v_onone, v_osome, v_slice, v_call, v_glb, v_ofE, v_disp, v_cat, v_bi1, v_biL, v_isi, v_inS, v_sidx, v_join, v_subL, v_new, v_dct, v_lenSet, v_attr, v_meth, v_nox, v_dct0, v_dcp, v_dget, v_dpop, v_chain, v_tupE, v_min2, v_listT, v_sortS, v_neL, strE, refE, q_v_setI, q_v_setA, q_v_augA, q_v_parA, v_yes, v_itL, v_itA, v_itR1, v_itR2, v_lc, q_v_asg, q_v_par, q_v_setD, q_v_expr, q_v_app, q_v_if, q_v_for, q_v_ret, o_add, o_sub, c_lt, c_le, c_gt, c_ge, a_add, R.bind_ok, R.bind_ex, R.bind_bad, R.st_ok, R.st_ex, R.st_bad, RS.seq_nx, RS.seq_rt, RS.seq_ex, RS.seq_bk, RS.seq_ct, RS.seq_bad, optR_some, optR_none, Tg.set, setAll, asB, Lt.truthy, isNon, biLE, getL_tmp, getM_tmp, Option.isSome_some, reduceIte, if_true, if_false, Bool.false_eq_true, Option.map_some, w0, w1, w2, w3, w4, w5, w6, w7, w8, w9, w10, w11, w12, w13, w14, w15, w16, w17, w18, w19, w20, w21, w22, w23, w24, x0, x1, x2, x3, x4, x5, x6, x7, x8, x9, x10, x11, x12, x13, x14, x15, x16, x17, x18, x19, x20, x21, x22, x23, x24, z0, z1, z2, z3, z4, z5, z6, z7, z8, z9, z10, z11, z12, z13, z14, z15, z16, z17, z18, z19, z20, z21, z22, z23, z24, y0, y1, y2, y3, y4, y5, y6, y7, y8, y9, y10, y11, y12, y13, y14, y15, y16, y17, y18, y19, y20, y21, y22, y23, y24, b20_0, tlS, aadd, o_mod q2, c_eqI, c, c_neS, n1, n2, Bool.not_false, Bool.not_true, h1, hd1, g0, fe_get, len_tup, bi1E, c2]
      | wr =>
        have kk : keepB kept (sub1 d x) = false := by
          unfold keepB sub1
          rw [hk]
          exact decide_eq_false hl
        rw [hk] at no
        refine no (by rw [k1, kk]; rfl) ?_
        have n1 : decide (Kd.wr.s = ("write" : Str)) = true := by decide +kernel
        simp -implicitDefEqProofs only [Stms.ev, Stm.ev, Ex.ev, Ex.evT, Exs.ev, Exs.evAnd, Exs.evOr, Exs.evTAnd, Exs.evTOr, Ox.ev, Ox.evT, Lx.ev, It.ev, v_c, v_bin, v_cmp, v_bl, v_isN, v_ntN, v_not, v_tru, v_asB, v_and, v_or, v_if, v_tup, v_nil, v_cons, v_sub, v_onone, v_osome, v_slice, v_call, v_glb, v_ofE, v_disp, v_cat, v_bi1, v_biL, v_isi, v_inS, v_sidx, v_join, v_subL, v_new, v_dct, v_lenSet, v_attr, v_meth, v_nox, v_dct0, v_dcp, v_dget, v_dpop, v_chain, v_tupE, v_min2, v_listT, v_sortS, v_neL, strE, refE, q_v_setI, q_v_setA, q_v_augA, q_v_parA, v_yes, v_itL, v_itA, v_itR1, v_itR2, v_lc, q_v_asg, q_v_par, q_v_setD, q_v_expr, q_v_app, q_v_if, q_v_for, q_v_ret, o_add, o_sub, c_lt, c_le, c_gt, c_ge, a_add, R.bind_ok, R.bind_ex, R.bind_bad, R.st_ok, R.st_ex, R.st_bad, RS.seq_nx, RS.seq_rt, RS.seq_ex, RS.seq_bk, RS.seq_ct, RS.seq_bad, optR_some, optR_none, Tg.set, setAll, asB, Lt.truthy, isNon, biLE, getL_tmp, getM_tmp, Option.isSome_some, reduceIte, if_true, if_false, Bool.false_eq_true, Option.map_some, w0, w1, w2, w3, w4, w5, w6, w7, w8, w9, w10, w11, w12, w13, w14, w15, w16, w17, w18, w19, w20, w21, w22, w23, w24, x0, x1, x2, x3, x4, x5, x6, x7, x8, x9, x10, x11, x12, x13, x14, x15, x16, x17, x18, x19, x20, x21, x22, x23, x24, z0, z1, z2, z3, z4, z5, z6, z7, z8, z9, z10, z11, z12, z13, z14, z15, z16, z17, z18, z19, z20, z21, z22, z23, z24, y0, y1, y2, y3, y4, y5, y6, y7, y8, y9, y10, y11, y12, y13, y14, y15, y16, y17, y18, y19, y20, y21, y22, y23, y24, b20_0, tlS, aadd, o_mod q2, c_eqI, c, c_neS, n1, Bool.not_false, Bool.not_true, h1, hd1, g0, fe_get, len_tup, bi1E, c2]
  · have c : decide (((pk ps i : Nat) : Int) % 2 = 1) = false := decide_eq_false (by omega)
    refine no (by unfold ls1; dsimp only; rw [decide_eq_false hp]; rfl) ?_
    simp -implicitDefEqProofs only [Stms.ev, Stm.ev, Ex.ev, Ex.evT, Exs.ev, Exs.evAnd, Exs.evOr, Exs.evTAnd, Exs.evTOr, Ox.ev, Ox.evT, Lx.ev, It.ev, v_c, v_bin, v_cmp, v_bl, v_isN, v_ntN, v_not, v_tru, v_asB, v_and, v_or, v_if, v_tup, v_nil, v_cons, v_sub, v_onone, v_osome, v_slice, v_call, v_glb, v_ofE, v_disp, v_cat, v_bi1, v_biL, v_isi, v_inS, v_sidx, v_join, v_subL, v_new, v_dct, v_lenSet, v_attr, v_meth, v_nox, v_dct0, v_dcp, v_dget, v_dpop, v_chain, v_tupE, v_min2, v_listT, v_sortS, v_neL, strE, refE, q_v_setI, q_v_setA, q_v_augA, q_v_parA, v_yes, v_itL, v_itA, v_itR1, v_itR2, v_lc, q_v_asg, q_v_par, q_v_setD, q_v_expr, q_v_app, q_v_if, q_v_for, q_v_ret, o_add, o_sub, c_lt, c_le, c_gt, c_ge, a_add, R.bind_ok, R.bind_ex, R.bind_bad, R.st_ok, R.st_ex, R.st_bad, RS.seq_nx, RS.seq_rt, RS.seq_ex, RS.seq_bk, RS.seq_ct, RS.seq_bad, optR_some, optR_none, Tg.set, setAll, asB, Lt.truthy, isNon, biLE, getL_tmp, getM_tmp, Option.isSome_some, reduceIte, if_true, if_false, Bool.false_eq_true, Option.map_some, w0, w1, w2, w3, w4, w5, w6, w7, w8, w9, w10, w11, w12, w13, w14, w15, w16, w17, w18, w19, w20, w21, w22, w23, w24, x0, x1, x2, x3, x4, x5, x6, x7, x8, x9, x10, x11, x12, x13, x14, x15, x16, x17, x18, x19, x20, x21, x22, x23, x24, z0, z1, z2, z3, z4, z5, z6, z7, z8, z9, z10, z11, z12, z13, z14, z15, z16, z17, z18, z19, z20, z21, z22, z23, z24, y0, y1, y2, y3, y4, y5, y6, y7, y8, y9, y10, y11, y12, y13, y14, y15, y16, y17, y18, y19, y20, y21, y22, y23, y24, b20_0, tlS, aadd, o_mod q2, c_eqI, c]
end
end K02
end
section
set_option Elab.async false
set_option linter.all false
set_option maxRecDepth 100000
set_option maxHeartbeats 1000000
/-! k02: the disk behind a loss. -/
namespace K02
open PySem Lt
section
variable {H : Hq} {D kd nd wd k : Nat} {f : E} {s : Int} {kept now : Fl} {w : List Dd}
theorem lose_in {d : Dd} {ps : List Nat} {L : Nat} {all : List (Nat × List Nat)} {tg : Tg} (htg : tg = .tup [⟨8, "begin", ⟨79, 16, 79, 21⟩⟩, ⟨9, "part", ⟨79, 23, 79, 27⟩⟩] 0 ⟨79, 16, 79, 27⟩) {s5 s6 s7 : Option E} (hn : d.n ∈ names4) : ∀ (xs : List (Nat × List Nat)) (H : Hq) (kd M i : Nat) (kept : Fl) (v8 v9 v10 : Option E), DiskAt H D kd nd wd kept now w f s → H[L]? = some (.lst (all.map pe)) → Gd kept M → M + sums xs ≤ 50000 →
    ∃ H' kd' u8 u9 u10, forS (some L) (all.map pe) tg (b20_0.ev (Pn (k + 1))) (xs.map pe) [some (.ref D), some (.tup (nats ps)), some (.int (i : Int)), some (.str d.k.s), some (.str d.n), s5, s6, s7, v8, v9, v10] H = .nx [some (.ref D), some (.tup (nats ps)), some (.int ((i + xs.length : Nat) : Int)), some (.str d.k.s), some (.str d.n), s5, s6, s7, u8, u9, u10] H' ∧
      DiskAt H' D kd' nd wd (xs.foldl (ls1 ps d) (kept, i)).1 now w f s ∧ Fr D wd H H'
  | [], H, kd, M, i, kept, v8, v9, v10, h, hL, hG, hM => ⟨H, kd, v8, v9, v10, by rw [List.map_nil, for_end (stays_at hL)]; rfl, h, Fr.refl⟩
  | x :: xs, H, kd, M, i, kept, v8, v9, v10, h, hL, hG, hM => by
    rw [sums_cons] at hM
    obtain ⟨H1, kd1, e1, h1, hF1, hJ1⟩ := lose_turn (k := k) (x := x) (ps := ps) (i := i) (s1 := some (.tup (nats ps))) (s5 := s5) (s6 := s6) (s7 := s7) h hG hn (by omega)
    have hLD : L ≠ D := lst_ne h.at_ hL
    have hL1 : H1[L]? = some (.lst (all.map pe)) := by rw [hJ1 L (List.getElem?_eq_some_iff.mp hL).1 hLD]; exact hL
    obtain ⟨H2, kd2, u8, u9, u10, e2, h2, hF2⟩ := lose_in (L := L) (all := all) htg (s5 := s5) (s6 := s6) (s7 := s7) hn xs H1 kd1 (M + x.2.length) (i + 1) (ls1 ps d (kept, i) x).1 (some (.int (x.1 : Int))) (some (.tup (nats x.2))) (some (.int ((pk ps i : Nat) : Int))) h1 hL1 (hG.ls1 hn) (by omega)
    refine ⟨H2, kd2, u8, u9, u10, ?_, h2, hF1.trans hF2 (.inl rfl)⟩
    have ht : b20_0.ev (Pn (k + 1)) [some (.ref D), some (.tup (nats ps)), some (.int (i : Int)), some (.str d.k.s), some (.str d.n), s5, s6, s7, some (.int (x.1 : Int)), some (.tup (nats x.2)), v10] H = .nx [some (.ref D), some (.tup (nats ps)), some (.int ((i + 1 : Nat) : Int)), some (.str d.k.s), some (.str d.n), s5, s6, s7, some (.int (x.1 : Int)), some (.tup (nats x.2)), some (.int ((pk ps i : Nat) : Int))] H1 := by
      have e0 : b20_0.ev (Pn (k + 1)) [some (.ref D), some (.tup (nats ps)), some (.int (i : Int)), some (.str d.k.s), some (.str d.n), s5, s6, s7, some (.int (x.1 : Int)), some (.tup (nats x.2)), v10] H = ((hdS b20_0).ev (Pn (k + 1)) [some (.ref D), some (.tup (nats ps)), some (.int (i : Int)), some (.str d.k.s), some (.str d.n), s5, s6, s7, some (.int (x.1 : Int)), some (.tup (nats x.2)), v10] H).seq ((tlS b20_0).ev (Pn (k + 1))) := rfl
      rw [e0, lose_pick, RS.seq_nx, e1]
    subst htg
    rw [List.map_cons, for_nx (ρ1 := [some (.ref D), some (.tup (nats ps)), some (.int (i : Int)), some (.str d.k.s), some (.str d.n), s5, s6, s7, some (.int (x.1 : Int)), some (.tup (nats x.2)), v10]) (stays_at hL) rfl ht, e2, List.length_cons]
    rw [show i + 1 + xs.length = i + (xs.length + 1) by omega]
theorem lose_out {ps : List Nat} {tg : Tg} (htg : tg = .tup [⟨3, "kind", ⟨77, 12, 77, 16⟩⟩, ⟨4, "name", ⟨77, 18, 77, 22⟩⟩, ⟨5, "place", ⟨77, 24, 77, 29⟩⟩, ⟨6, "row", ⟨77, 31, 77, 34⟩⟩] 0 ⟨77, 12, 77, 34⟩) : ∀ (ds : List Dd) (H : Hq) (kd M i : Nat) (kept : Fl) (v3 v4 v5 v6 v7 v8 v9 v10 : Option E), DiskAt H D kd nd wd kept now w f s → Gd kept M → (∀ d ∈ ds, d.n ∈ names4 ∧ d.r.length ≤ 50) → M + 50 * ds.length ≤ 50000 →
    ∃ H' kd' i' u3 u4 u5 u6 u7 u8 u9 u10, forS (some wd) (w.map Dd.e) tg (b20_1.ev (Pn (k + 1))) (ds.map Dd.e) [some (.ref D), some (.tup (nats ps)), some (.int (i : Int)), v3, v4, v5, v6, v7, v8, v9, v10] H = .nx [some (.ref D), some (.tup (nats ps)), some (.int ((i' : Nat) : Int)), u3, u4, u5, u6, u7, u8, u9, u10] H' ∧
      DiskAt H' D kd' nd wd (ds.foldl (lsD ps) (kept, i)).1 now w f s ∧ Fr D wd H H'
  | [], H, kd, M, i, kept, v3, v4, v5, v6, v7, v8, v9, v10, h, hG, hd, hM => ⟨H, kd, i, v3, v4, v5, v6, v7, v8, v9, v10, by rw [List.map_nil, for_end (stays_at h.wait)], h, Fr.refl⟩
  | d :: ds, H, kd, M, i, kept, v3, v4, v5, v6, v7, v8, v9, v10, h, hG, hd, hM => by
    rw [List.length_cons] at hM
    have hd0 := hd d List.mem_cons_self
    have hsum := pcD_sum d
    have hA : DiskAt (H ++ [Ob.lst ((pcD d).map pe)]) D kd nd wd kept now w f s := h.app
    have hL : (H ++ [Ob.lst ((pcD d).map pe)])[H.length]? = some (.lst ((pcD d).map pe)) := get_new
    obtain ⟨H1, kd1, u8, u9, u10, e1, h1, hF1⟩ := lose_in (k := k) (d := d) (ps := ps) (L := H.length) (all := pcD d) rfl (s5 := some (.int (d.p : Int))) (s6 := some (.tup (nats d.r))) (s7 := some (.ref H.length)) hd0.1 (pcD d) _ kd M i kept v8 v9 v10 hA hL hG (by omega)
    have hat : (lsD ps (kept, i) d).2 = i + (pcD d).length := lsF_at _ _
    have hG1 : Gd (lsD ps (kept, i) d).1 (M + 50) := (hG.lsD hd0.1).mono (by omega)
    obtain ⟨H2, kd2, i2, t3, t4, t5, t6, t7, t8, t9, t10, e2, h2, hF2⟩ := lose_out (ps := ps) htg ds H1 kd1 (M + 50) (i + (pcD d).length) (lsD ps (kept, i) d).1 (some (.str d.k.s)) (some (.str d.n)) (some (.int (d.p : Int))) (some (.tup (nats d.r))) (some (.ref H.length)) u8 u9 u10 h1 hG1 (fun x hx => hd x (List.mem_cons_of_mem _ hx)) (by omega)
    have ht : b20_1.ev (Pn (k + 1)) [some (.ref D), some (.tup (nats ps)), some (.int (i : Int)), some (.str d.k.s), some (.str d.n), some (.int (d.p : Int)), some (.tup (nats d.r)), v7, v8, v9, v10] H = .nx [some (.ref D), some (.tup (nats ps)), some (.int ((i + (pcD d).length : Nat) : Int)), some (.str d.k.s), some (.str d.n), some (.int (d.p : Int)), some (.tup (nats d.r)), some (.ref H.length), u8, u9, u10] H1 := by
      have it := it_at hL
      have c0 := pieces_ok (k := k) (H := H) (p := d.p) (r := d.r) (by omega)
      rw [← par_cl] at c0
      cases hk : d.k with
      | wr =>
        have kk : decide (Kd.wr.s = ("write" : Str)) = true := by decide +kernel
        rw [show pcs d.p d.r 0 = pcD d by unfold pcD; rw [hk]] at c0
        rw [hk] at e1
        simp -implicitDefEqProofs only [Stms.ev, Stm.ev, Ex.ev, Ex.evT, Exs.ev, Exs.evAnd, Exs.evOr, Exs.evTAnd, Exs.evTOr, Ox.ev, Ox.evT, Lx.ev, It.ev, v_c, v_bin, v_cmp, v_bl, v_isN, v_ntN, v_not, v_tru, v_asB, v_and, v_or, v_if, v_tup, v_nil, v_cons, v_sub, v_onone, v_osome, v_slice, v_call, v_glb, v_ofE, v_disp, v_cat, v_bi1, v_biL, v_isi, v_inS, v_sidx, v_join, v_subL, v_new, v_dct, v_lenSet, v_attr, v_meth, v_nox, v_dct0, v_dcp, v_dget, v_dpop, v_chain, v_tupE, v_min2, v_listT, v_sortS, v_neL, strE, refE, q_v_setI, q_v_setA, q_v_augA, q_v_parA, v_yes, v_itL, v_itA, v_itR1, v_itR2, v_lc, q_v_asg, q_v_par, q_v_setD, q_v_expr, q_v_app, q_v_if, q_v_for, q_v_ret, o_add, o_sub, c_lt, c_le, c_gt, c_ge, a_add, R.bind_ok, R.bind_ex, R.bind_bad, R.st_ok, R.st_ex, R.st_bad, RS.seq_nx, RS.seq_rt, RS.seq_ex, RS.seq_bk, RS.seq_ct, RS.seq_bad, optR_some, optR_none, Tg.set, setAll, asB, Lt.truthy, isNon, biLE, getL_tmp, getM_tmp, Option.isSome_some, reduceIte, if_true, if_false, Bool.false_eq_true, Option.map_some, w0, w1, w2, w3, w4, w5, w6, w7, w8, w9, w10, w11, w12, w13, w14, w15, w16, w17, w18, w19, w20, w21, w22, w23, w24, x0, x1, x2, x3, x4, x5, x6, x7, x8, x9, x10, x11, x12, x13, x14, x15, x16, x17, x18, x19, x20, x21, x22, x23, x24, z0, z1, z2, z3, z4, z5, z6, z7, z8, z9, z10, z11, z12, z13, z14, z15, z16, z17, z18, z19, z20, z21, z22, z23, z24, y0, y1, y2, y3, y4, y5, y6, y7, y8, y9, y10, y11, y12, y13, y14, y15, y16, y17, y18, y19, y20, y21, y22, y23, y24, b20_1, c_eqS, kk, c0, it, e1]
      | ct =>
        have kk : decide (Kd.ct.s = ("write" : Str)) = false := by decide +kernel
        have hp : [E.tup [.int (d.p : Int), .tup (nats d.r)]] = (pcD d).map pe := by unfold pcD; rw [hk]; rfl
        have hpl : (((pcD d).map pe).length ≤ sizeLine) = True := by rw [← hp]; exact ln1 _
        rw [hk] at e1
        simp -implicitDefEqProofs only [Stms.ev, Stm.ev, Ex.ev, Ex.evT, Exs.ev, Exs.evAnd, Exs.evOr, Exs.evTAnd, Exs.evTOr, Ox.ev, Ox.evT, Lx.ev, It.ev, v_c, v_bin, v_cmp, v_bl, v_isN, v_ntN, v_not, v_tru, v_asB, v_and, v_or, v_if, v_tup, v_nil, v_cons, v_sub, v_onone, v_osome, v_slice, v_call, v_glb, v_ofE, v_disp, v_cat, v_bi1, v_biL, v_isi, v_inS, v_sidx, v_join, v_subL, v_new, v_dct, v_lenSet, v_attr, v_meth, v_nox, v_dct0, v_dcp, v_dget, v_dpop, v_chain, v_tupE, v_min2, v_listT, v_sortS, v_neL, strE, refE, q_v_setI, q_v_setA, q_v_augA, q_v_parA, v_yes, v_itL, v_itA, v_itR1, v_itR2, v_lc, q_v_asg, q_v_par, q_v_setD, q_v_expr, q_v_app, q_v_if, q_v_for, q_v_ret, o_add, o_sub, c_lt, c_le, c_gt, c_ge, a_add, R.bind_ok, R.bind_ex, R.bind_bad, R.st_ok, R.st_ex, R.st_bad, RS.seq_nx, RS.seq_rt, RS.seq_ex, RS.seq_bk, RS.seq_ct, RS.seq_bad, optR_some, optR_none, Tg.set, setAll, asB, Lt.truthy, isNon, biLE, getL_tmp, getM_tmp, Option.isSome_some, reduceIte, if_true, if_false, Bool.false_eq_true, Option.map_some, w0, w1, w2, w3, w4, w5, w6, w7, w8, w9, w10, w11, w12, w13, w14, w15, w16, w17, w18, w19, w20, w21, w22, w23, w24, x0, x1, x2, x3, x4, x5, x6, x7, x8, x9, x10, x11, x12, x13, x14, x15, x16, x17, x18, x19, x20, x21, x22, x23, x24, z0, z1, z2, z3, z4, z5, z6, z7, z8, z9, z10, z11, z12, z13, z14, z15, z16, z17, z18, z19, z20, z21, z22, z23, z24, y0, y1, y2, y3, y4, y5, y6, y7, y8, y9, y10, y11, y12, y13, y14, y15, y16, y17, y18, y19, y20, y21, y22, y23, y24, b20_1, c_eqS, kk, ln1, ln2, hp, hpl, it, e1]
      | rm =>
        have kk : decide (Kd.rm.s = ("write" : Str)) = false := by decide +kernel
        have hp : [E.tup [.int (d.p : Int), .tup (nats d.r)]] = (pcD d).map pe := by unfold pcD; rw [hk]; rfl
        have hpl : (((pcD d).map pe).length ≤ sizeLine) = True := by rw [← hp]; exact ln1 _
        rw [hk] at e1
        simp -implicitDefEqProofs only [Stms.ev, Stm.ev, Ex.ev, Ex.evT, Exs.ev, Exs.evAnd, Exs.evOr, Exs.evTAnd, Exs.evTOr, Ox.ev, Ox.evT, Lx.ev, It.ev, v_c, v_bin, v_cmp, v_bl, v_isN, v_ntN, v_not, v_tru, v_asB, v_and, v_or, v_if, v_tup, v_nil, v_cons, v_sub, v_onone, v_osome, v_slice, v_call, v_glb, v_ofE, v_disp, v_cat, v_bi1, v_biL, v_isi, v_inS, v_sidx, v_join, v_subL, v_new, v_dct, v_lenSet, v_attr, v_meth, v_nox, v_dct0, v_dcp, v_dget, v_dpop, v_chain, v_tupE, v_min2, v_listT, v_sortS, v_neL, strE, refE, q_v_setI, q_v_setA, q_v_augA, q_v_parA, v_yes, v_itL, v_itA, v_itR1, v_itR2, v_lc, q_v_asg, q_v_par, q_v_setD, q_v_expr, q_v_app, q_v_if, q_v_for, q_v_ret, o_add, o_sub, c_lt, c_le, c_gt, c_ge, a_add, R.bind_ok, R.bind_ex, R.bind_bad, R.st_ok, R.st_ex, R.st_bad, RS.seq_nx, RS.seq_rt, RS.seq_ex, RS.seq_bk, RS.seq_ct, RS.seq_bad, optR_some, optR_none, Tg.set, setAll, asB, Lt.truthy, isNon, biLE, getL_tmp, getM_tmp, Option.isSome_some, reduceIte, if_true, if_false, Bool.false_eq_true, Option.map_some, w0, w1, w2, w3, w4, w5, w6, w7, w8, w9, w10, w11, w12, w13, w14, w15, w16, w17, w18, w19, w20, w21, w22, w23, w24, x0, x1, x2, x3, x4, x5, x6, x7, x8, x9, x10, x11, x12, x13, x14, x15, x16, x17, x18, x19, x20, x21, x22, x23, x24, z0, z1, z2, z3, z4, z5, z6, z7, z8, z9, z10, z11, z12, z13, z14, z15, z16, z17, z18, z19, z20, z21, z22, z23, z24, y0, y1, y2, y3, y4, y5, y6, y7, y8, y9, y10, y11, y12, y13, y14, y15, y16, y17, y18, y19, y20, y21, y22, y23, y24, b20_1, c_eqS, kk, ln1, ln2, hp, hpl, it, e1]
    refine ⟨H2, kd2, i2, t3, t4, t5, t6, t7, t8, t9, t10, ?_, ?_, (Fr.app.trans hF1 (.inl rfl)).trans hF2 (.inl rfl)⟩
    · subst htg
      rw [List.map_cons, for_nx (ρ1 := [some (.ref D), some (.tup (nats ps)), some (.int (i : Int)), some (.str d.k.s), some (.str d.n), some (.int (d.p : Int)), some (.tup (nats d.r)), v7, v8, v9, v10]) (stays_at h.wait) rfl ht, e2]
    · rw [List.foldl_cons, show lsD ps (kept, i) d = ((lsD ps (kept, i) d).1, i + (pcD d).length) from Prod.ext rfl hat]
      exact h2
theorem lose_ok {ps : List Nat} {M : Nat} (h : DiskAt H D kd nd wd kept now w f s) (hG : Gd kept M) (hd : ∀ d ∈ w, d.n ∈ names4 ∧ d.r.length ≤ 50) (hM : M + 50 * w.length ≤ 50000) :
    ∃ H' kd' nd' wd', cl (k + 2) 20 [.ref D, .tup (nats ps)] H = .ok .non H' ∧ DiskAt H' D kd' nd' wd' (lost ps w kept) (lost ps w kept) [] .non s ∧ Fr D wd H H' ∧ H.length ≤ wd' := by
  rw [cl_succ (fn := f20) rfl rfl]
  show ∃ H' kd' nd' wd', endR false H (b20.ev (Pn (k + 1)) [some (.ref D), some (.tup (nats ps)), none, none, none, none, none, none, none, none, none] H) = .ok .non H' ∧ _
  have i1 := at_wait (k := k + 1) h.at_
  have i2 := it_at h.wait
  obtain ⟨H1, kd1, j, u3, u4, u5, u6, u7, u8, u9, u10, e1, h1, hF⟩ := lose_out (k := k) (ps := ps) rfl w H kd M 0 kept none none none none none none none none h hG hd hM
  have e1 : forS (some wd) (w.map Dd.e) _ (b20_1.ev (Pn (k + 1))) (w.map Dd.e) [some (.ref D), some (.tup (nats ps)), some (.int 0), none, none, none, none, none, none, none, none] H = _ := e1
  have h1 : DiskAt H1 D kd1 nd wd (lost ps w kept) now w f s := h1
  have i3 := at_kept (k := k + 1) (get_app (J := [Ob.lst []]) h1.at_)
  have i4 := dct_at (get_app (J := [Ob.lst []]) h1.kept)
  have hA : DiskAt (H1 ++ [Ob.lst []] ++ [Ob.dct (fe (lost ps w kept))]) D kd1 nd wd (lost ps w kept) now w f s := h1.app.app
  have s1 := st_wait (k := k + 1) (v := H1.length) hA.at_
  have s2 := st_now (k := k + 1) (v := (H1 ++ [Ob.lst []]).length) (set_at (x := DO kd1 nd H1.length f s) hA.at_)
  rw [List.set_set] at s2
  have s3 := st_fuse (k := k + 1) (v := .non) (set_at (x := DO kd1 (H1 ++ [Ob.lst []]).length H1.length f s) hA.at_)
  rw [List.set_set] at s3
  have e : b20.ev (Pn (k + 1)) [some (.ref D), some (.tup (nats ps)), none, none, none, none, none, none, none, none, none] H = .nx [some (.ref D), some (.tup (nats ps)), some (.int ((j : Nat) : Int)), u3, u4, u5, u6, u7, u8, u9, u10] ((H1 ++ [Ob.lst []] ++ [Ob.dct (fe (lost ps w kept))]).set D (DO kd1 (H1 ++ [Ob.lst []]).length H1.length .non s)) := by
    simp -implicitDefEqProofs only [Stms.ev, Stm.ev, Ex.ev, Ex.evT, Exs.ev, Exs.evAnd, Exs.evOr, Exs.evTAnd, Exs.evTOr, Ox.ev, Ox.evT, Lx.ev, It.ev, v_c, v_bin, v_cmp, v_bl, v_isN, v_ntN, v_not, v_tru, v_asB, v_and, v_or, v_if, v_tup, v_nil, v_cons, v_sub, v_onone, v_osome, v_slice, v_call, v_glb, v_ofE, v_disp, v_cat, v_bi1, v_biL, v_isi, v_inS, v_sidx, v_join, v_subL, v_new, v_dct, v_lenSet, v_attr, v_meth, v_nox, v_dct0, v_dcp, v_dget, v_dpop, v_chain, v_tupE, v_min2, v_listT, v_sortS, v_neL, strE, refE, q_v_setI, q_v_setA, q_v_augA, q_v_parA, v_yes, v_itL, v_itA, v_itR1, v_itR2, v_lc, q_v_asg, q_v_par, q_v_setD, q_v_expr, q_v_app, q_v_if, q_v_for, q_v_ret, o_add, o_sub, c_lt, c_le, c_gt, c_ge, a_add, R.bind_ok, R.bind_ex, R.bind_bad, R.st_ok, R.st_ex, R.st_bad, RS.seq_nx, RS.seq_rt, RS.seq_ex, RS.seq_bk, RS.seq_ct, RS.seq_bad, optR_some, optR_none, Tg.set, setAll, asB, Lt.truthy, isNon, biLE, getL_tmp, getM_tmp, Option.isSome_some, reduceIte, if_true, if_false, Bool.false_eq_true, Option.map_some, w0, w1, w2, w3, w4, w5, w6, w7, w8, w9, w10, w11, w12, w13, w14, w15, w16, w17, w18, w19, w20, w21, w22, w23, w24, x0, x1, x2, x3, x4, x5, x6, x7, x8, x9, x10, x11, x12, x13, x14, x15, x16, x17, x18, x19, x20, x21, x22, x23, x24, z0, z1, z2, z3, z4, z5, z6, z7, z8, z9, z10, z11, z12, z13, z14, z15, z16, z17, z18, z19, z20, z21, z22, z23, z24, y0, y1, y2, y3, y4, y5, y6, y7, y8, y9, y10, y11, y12, y13, y14, y15, y16, y17, y18, y19, y20, y21, y22, y23, y24, b20, i1, i2, e1, ln0, i3, i4, s1, s2, s3]
  rw [e]
  have hh := (List.getElem?_eq_some_iff.mp h1.at_).1
  refine ⟨_, kd1, _, _, rfl, ⟨set_at hA.at_, ?_, ?_, ?_⟩, ((hF.trans Fr.app (.inl rfl)).trans Fr.app (.inl rfl)).trans (Fr.set (wd := wd)) (.inl rfl), hF.1⟩
  · rw [set_ne (dct_ne hA.at_ hA.kept)]; exact hA.kept
  · rw [set_ne (by simp; omega)]; exact get_new
  · rw [set_ne (by omega)]; exact get_app get_new
end
end K02
end
section
set_option Elab.async false
set_option linter.all false
set_option maxRecDepth 100000
set_option maxHeartbeats 1000000
/-! k02: the law's own loss. -/
namespace K02
open PySem Lt
section
variable {H : Hq} {k : Nat}
theorem ll_pick {ps : List Nat} {i : Nat} {s0 s1 s4 s5 s6 s7 s8 s9 s10 s11 s12 : Option E} : (hdS b6_0).ev (Pn k) [s0, s1, some (.tup (nats ps)), some (.int (i : Int)), s4, s5, s6, s7, s8, s9, s10, s11, s12] H = .nx [s0, s1, some (.tup (nats ps)), some (.int (i : Int)), s4, s5, s6, s7, s8, s9, s10, s11, some (.bl (decide (pk ps i % 2 = 1)))] H := by
  unfold pk
  cases h : ps[i]? with
  | some a =>
    have hi := (List.getElem?_eq_some_iff.mp h).1
    have c : decide ((i : Int) < (ps.length : Int)) = true := decide_eq_true (by omega)
    have hs := sub_nats (H := H) h
    have q2 : (0 : Int) < 2 := by decide
    have e : decide (((a : Nat) : Int) % 2 = 1) = decide ((some a).getD 0 % 2 = 1) := decide_eq_decide.mpr (by show _ ↔ a % 2 = 1; omega)
    simp -implicitDefEqProofs only [Stms.ev, Stm.ev, Ex.ev, Ex.evT, Exs.ev, Exs.evAnd, Exs.evOr, Exs.evTAnd, Exs.evTOr, Ox.ev, Ox.evT, Lx.ev, It.ev, v_c, v_bin, v_cmp, v_bl, v_isN, v_ntN, v_not, v_tru, v_asB, v_and, v_or, v_if, v_tup, v_nil, v_cons, v_sub, v_onone, v_osome, v_slice, v_call, v_glb, v_ofE, v_disp, v_cat, v_bi1, v_biL, v_isi, v_inS, v_sidx, v_join, v_subL, v_new, v_dct, v_lenSet, v_attr, v_meth, v_nox, v_dct0, v_dcp, v_dget, v_dpop, v_chain, v_tupE, v_min2, v_listT, v_sortS, v_neL, strE, refE, q_v_setI, q_v_setA, q_v_augA, q_v_parA, v_yes, v_itL, v_itA, v_itR1, v_itR2, v_lc, q_v_asg, q_v_par, q_v_setD, q_v_expr, q_v_app, q_v_if, q_v_for, q_v_ret, o_add, o_sub, c_lt, c_le, c_gt, c_ge, a_add, R.bind_ok, R.bind_ex, R.bind_bad, R.st_ok, R.st_ex, R.st_bad, RS.seq_nx, RS.seq_rt, RS.seq_ex, RS.seq_bk, RS.seq_ct, RS.seq_bad, optR_some, optR_none, Tg.set, setAll, asB, Lt.truthy, isNon, biLE, getL_tmp, getM_tmp, Option.isSome_some, reduceIte, if_true, if_false, Bool.false_eq_true, Option.map_some, w0, w1, w2, w3, w4, w5, w6, w7, w8, w9, w10, w11, w12, w13, w14, w15, w16, w17, w18, w19, w20, w21, w22, w23, w24, x0, x1, x2, x3, x4, x5, x6, x7, x8, x9, x10, x11, x12, x13, x14, x15, x16, x17, x18, x19, x20, x21, x22, x23, x24, z0, z1, z2, z3, z4, z5, z6, z7, z8, z9, z10, z11, z12, z13, z14, z15, z16, z17, z18, z19, z20, z21, z22, z23, z24, y0, y1, y2, y3, y4, y5, y6, y7, y8, y9, y10, y11, y12, y13, y14, y15, y16, y17, y18, y19, y20, y21, y22, y23, y24, b6_0, hdS, len_tup, bi1E, c, hs, intE, o_mod q2, c_eqI, e]
  | none =>
    have hi := List.getElem?_eq_none_iff.mp h
    have c : decide ((i : Int) < (ps.length : Int)) = false := decide_eq_false (by omega)
    simp -implicitDefEqProofs only [Stms.ev, Stm.ev, Ex.ev, Ex.evT, Exs.ev, Exs.evAnd, Exs.evOr, Exs.evTAnd, Exs.evTOr, Ox.ev, Ox.evT, Lx.ev, It.ev, v_c, v_bin, v_cmp, v_bl, v_isN, v_ntN, v_not, v_tru, v_asB, v_and, v_or, v_if, v_tup, v_nil, v_cons, v_sub, v_onone, v_osome, v_slice, v_call, v_glb, v_ofE, v_disp, v_cat, v_bi1, v_biL, v_isi, v_inS, v_sidx, v_join, v_subL, v_new, v_dct, v_lenSet, v_attr, v_meth, v_nox, v_dct0, v_dcp, v_dget, v_dpop, v_chain, v_tupE, v_min2, v_listT, v_sortS, v_neL, strE, refE, q_v_setI, q_v_setA, q_v_augA, q_v_parA, v_yes, v_itL, v_itA, v_itR1, v_itR2, v_lc, q_v_asg, q_v_par, q_v_setD, q_v_expr, q_v_app, q_v_if, q_v_for, q_v_ret, o_add, o_sub, c_lt, c_le, c_gt, c_ge, a_add, R.bind_ok, R.bind_ex, R.bind_bad, R.st_ok, R.st_ex, R.st_bad, RS.seq_nx, RS.seq_rt, RS.seq_ex, RS.seq_bk, RS.seq_ct, RS.seq_bad, optR_some, optR_none, Tg.set, setAll, asB, Lt.truthy, isNon, biLE, getL_tmp, getM_tmp, Option.isSome_some, reduceIte, if_true, if_false, Bool.false_eq_true, Option.map_some, w0, w1, w2, w3, w4, w5, w6, w7, w8, w9, w10, w11, w12, w13, w14, w15, w16, w17, w18, w19, w20, w21, w22, w23, w24, x0, x1, x2, x3, x4, x5, x6, x7, x8, x9, x10, x11, x12, x13, x14, x15, x16, x17, x18, x19, x20, x21, x22, x23, x24, z0, z1, z2, z3, z4, z5, z6, z7, z8, z9, z10, z11, z12, z13, z14, z15, z16, z17, z18, z19, z20, z21, z22, z23, z24, y0, y1, y2, y3, y4, y5, y6, y7, y8, y9, y10, y11, y12, y13, y14, y15, y16, y17, y18, y19, y20, y21, y22, y23, y24, b6_0, hdS, len_tup, bi1E, c]
    rfl
theorem ll_turn {fd : Nat} {fl : Fl} {d : Dd} {x : Nat × List Nat} {ps : List Nat} {i M : Nat} {s1 s6 s7 s8 s10 : Option E} (hf : H[fd]? = some (.dct (fe fl))) (hG : Gd fl M) (hn : d.n ∈ names4) (hM : M + x.2.length ≤ 50000) :
    ∃ fd' J, (tlS b6_0).ev (Pn (k + 1)) [some (.ref fd), s1, some (.tup (nats ps)), some (.int (i : Int)), some (.str d.k.s), some (.str d.n), s6, s7, s8, some (.int (x.1 : Int)), s10, some (.tup (nats x.2)), some (.bl (decide (pk ps i % 2 = 1)))] H = .nx [some (.ref fd'), s1, some (.tup (nats ps)), some (.int ((i + 1 : Nat) : Int)), some (.str d.k.s), some (.str d.n), s6, s7, s8, some (.int (x.1 : Int)), s10, some (.tup (nats x.2)), some (.bl (decide (pk ps i % 2 = 1)))] (H ++ J) ∧
      (H ++ J)[fd']? = some (.dct (fe (ls1 ps d (fl, i) x).1)) := by
  have hd1 := dct_at hf
  have g0 : ([] : List E).length ≤ sizeLine := le_line (by simp)
  obtain ⟨J, h2⟩ := law_done_ok (k := k) (d := sub1 d x) hf (hG.fit (d := sub1 d x) (by show M + x.2.length ≤ _; omega))
  rw [← par_cl] at h2
  have h2 : (Pn (k + 1)).cl 4 [.ref fd, .tup [.str d.k.s, .str d.n, .int (x.1 : Int), .tup (nats x.2)]] H = .ok (.ref H.length) (H ++ [.dct (fe (done fl (sub1 d x)))] ++ J) := h2
  have hnew : (H ++ ([Ob.dct (fe (done fl (sub1 d x)))] ++ J))[H.length]? = some (.dct (fe (done fl (sub1 d x)))) := by rw [← List.append_assoc]; exact get_app get_new
  have hcast : ((i : Int) + 1) = ((i + 1 : Nat) : Int) := rfl
  by_cases hp : pk ps i % 2 = 1
  · have b : decide (pk ps i % 2 = 1) = true := decide_eq_true hp
    have k1 : (ls1 ps d (fl, i) x).1 = if keepB fl (sub1 d x) = true then done fl (sub1 d x) else fl := by
      unfold ls1
      dsimp only
      rw [decide_eq_true hp, Bool.true_and]
    rw [b]
    by_cases hl : x.1 ≤ (getF fl d.n).length
    · have c2 : decide ((x.1 : Int) ≤ ((getF fl d.n).length : Int)) = true := decide_eq_true (by omega)
      have kk : keepB fl (sub1 d x) = true := by
        unfold keepB sub1
        cases d.k with
        | rm => rfl
        | ct => exact decide_eq_true hl
        | wr => exact decide_eq_true hl
      rw [k1, if_pos kk]
      refine ⟨H.length, [Ob.dct (fe (done fl (sub1 d x)))] ++ J, ?_, hnew⟩
      rw [← List.append_assoc]
      cases hk : d.k with
      | rm =>
        rw [hk] at h2
        simp -implicitDefEqProofs only [Stms.ev, Stm.ev, Ex.ev, Ex.evT, Exs.ev, Exs.evAnd, Exs.evOr, Exs.evTAnd, Exs.evTOr, Ox.ev, Ox.evT, Lx.ev, It.ev, v_c, v_bin, v_cmp, v_bl, v_isN, v_ntN, v_not, v_tru, v_asB, v_and, v_or, v_if, v_tup, v_nil, v_cons, v_sub, v_onone, v_osome, v_slice, v_call, v_glb, v_ofE, v_disp, v_cat, v_bi1, v_biL, v_isi, v_inS, v_sidx, v_join, v_subL, v_new, v_dct, v_lenSet, v_attr, v_meth, v_nox, v_dct0, v_dcp, v_dget, v_dpop, v_chain, v_tupE, v_min2, v_listT, v_sortS, v_neL, strE, refE, q_v_setI, q_v_setA, q_v_augA, q_v_parA, v_yes, v_itL, v_itA, v_itR1, v_itR2, v_lc, q_v_asg, q_v_par, q_v_setD, q_v_expr, q_v_app, q_v_if, q_v_for, q_v_ret, o_add, o_sub, c_lt, c_le, c_gt, c_ge, a_add, R.bind_ok, R.bind_ex, R.bind_bad, R.st_ok, R.st_ex, R.st_bad, RS.seq_nx, RS.seq_rt, RS.seq_ex, RS.seq_bk, RS.seq_ct, RS.seq_bad, optR_some, optR_none, Tg.set, setAll, asB, Lt.truthy, isNon, biLE, getL_tmp, getM_tmp, Option.isSome_some, reduceIte, if_true, if_false, Bool.false_eq_true, Option.map_some, w0, w1, w2, w3, w4, w5, w6, w7, w8, w9, w10, w11, w12, w13, w14, w15, w16, w17, w18, w19, w20, w21, w22, w23, w24, x0, x1, x2, x3, x4, x5, x6, x7, x8, x9, x10, x11, x12, x13, x14, x15, x16, x17, x18, x19, x20, x21, x22, x23, x24, z0, z1, z2, z3, z4, z5, z6, z7, z8, z9, z10, z11, z12, z13, z14, z15, z16, z17, z18, z19, z20, z21, z22, z23, z24, y0, y1, y2, y3, y4, y5, y6, y7, y8, y9, y10, y11, y12, y13, y14, y15, y16, y17, y18, y19, y20, y21, y22, y23, y24, b6_0, tlS, c_eqS, k_rr, ln4, h2, hcast]
      | ct =>
        rw [hk] at h2
        simp -implicitDefEqProofs only [Stms.ev, Stm.ev, Ex.ev, Ex.evT, Exs.ev, Exs.evAnd, Exs.evOr, Exs.evTAnd, Exs.evTOr, Ox.ev, Ox.evT, Lx.ev, It.ev, v_c, v_bin, v_cmp, v_bl, v_isN, v_ntN, v_not, v_tru, v_asB, v_and, v_or, v_if, v_tup, v_nil, v_cons, v_sub, v_onone, v_osome, v_slice, v_call, v_glb, v_ofE, v_disp, v_cat, v_bi1, v_biL, v_isi, v_inS, v_sidx, v_join, v_subL, v_new, v_dct, v_lenSet, v_attr, v_meth, v_nox, v_dct0, v_dcp, v_dget, v_dpop, v_chain, v_tupE, v_min2, v_listT, v_sortS, v_neL, strE, refE, q_v_setI, q_v_setA, q_v_augA, q_v_parA, v_yes, v_itL, v_itA, v_itR1, v_itR2, v_lc, q_v_asg, q_v_par, q_v_setD, q_v_expr, q_v_app, q_v_if, q_v_for, q_v_ret, o_add, o_sub, c_lt, c_le, c_gt, c_ge, a_add, R.bind_ok, R.bind_ex, R.bind_bad, R.st_ok, R.st_ex, R.st_bad, RS.seq_nx, RS.seq_rt, RS.seq_ex, RS.seq_bk, RS.seq_ct, RS.seq_bad, optR_some, optR_none, Tg.set, setAll, asB, Lt.truthy, isNon, biLE, getL_tmp, getM_tmp, Option.isSome_some, reduceIte, if_true, if_false, Bool.false_eq_true, Option.map_some, w0, w1, w2, w3, w4, w5, w6, w7, w8, w9, w10, w11, w12, w13, w14, w15, w16, w17, w18, w19, w20, w21, w22, w23, w24, x0, x1, x2, x3, x4, x5, x6, x7, x8, x9, x10, x11, x12, x13, x14, x15, x16, x17, x18, x19, x20, x21, x22, x23, x24, z0, z1, z2, z3, z4, z5, z6, z7, z8, z9, z10, z11, z12, z13, z14, z15, z16, z17, z18, z19, z20, z21, z22, z23, z24, y0, y1, y2, y3, y4, y5, y6, y7, y8, y9, y10, y11, y12, y13, y14, y15, y16, y17, y18, y19, y20, y21, y22, y23, y24, b6_0, tlS, c_eqS, k_cr, hd1, g0, fe_get, len_tup, bi1E, c2, ln4, h2, hcast]
      | wr =>
        rw [hk] at h2
        simp -implicitDefEqProofs only [Stms.ev, Stm.ev, Ex.ev, Ex.evT, Exs.ev, Exs.evAnd, Exs.evOr, Exs.evTAnd, Exs.evTOr, Ox.ev, Ox.evT, Lx.ev, It.ev, v_c, v_bin, v_cmp, v_bl, v_isN, v_ntN, v_not, v_tru, v_asB, v_and, v_or, v_if, v_tup, v_nil, v_cons, v_sub, v_onone, v_osome, v_slice, v_call, v_glb, v_ofE, v_disp, v_cat, v_bi1, v_biL, v_isi, v_inS, v_sidx, v_join, v_subL, v_new, v_dct, v_lenSet, v_attr, v_meth, v_nox, v_dct0, v_dcp, v_dget, v_dpop, v_chain, v_tupE, v_min2, v_listT, v_sortS, v_neL, strE, refE, q_v_setI, q_v_setA, q_v_augA, q_v_parA, v_yes, v_itL, v_itA, v_itR1, v_itR2, v_lc, q_v_asg, q_v_par, q_v_setD, q_v_expr, q_v_app, q_v_if, q_v_for, q_v_ret, o_add, o_sub, c_lt, c_le, c_gt, c_ge, a_add, R.bind_ok, R.bind_ex, R.bind_bad, R.st_ok, R.st_ex, R.st_bad, RS.seq_nx, RS.seq_rt, RS.seq_ex, RS.seq_bk, RS.seq_ct, RS.seq_bad, optR_some, optR_none, Tg.set, setAll, asB, Lt.truthy, isNon, biLE, getL_tmp, getM_tmp, Option.isSome_some, reduceIte, if_true, if_false, Bool.false_eq_true, Option.map_some, w0, w1, w2, w3, w4, w5, w6, w7, w8, w9, w10, w11, w12, w13, w14, w15, w16, w17, w18, w19, w20, w21, w22, w23, w24, x0, x1, x2, x3, x4, x5, x6, x7, x8, x9, x10, x11, x12, x13, x14, x15, x16, x17, x18, x19, x20, x21, x22, x23, x24, z0, z1, z2, z3, z4, z5, z6, z7, z8, z9, z10, z11, z12, z13, z14, z15, z16, z17, z18, z19, z20, z21, z22, z23, z24, y0, y1, y2, y3, y4, y5, y6, y7, y8, y9, y10, y11, y12, y13, y14, y15, y16, y17, y18, y19, y20, y21, y22, y23, y24, b6_0, tlS, c_eqS, k_wr, hd1, g0, fe_get, len_tup, bi1E, c2, ln4, h2, hcast]
    · have c2 : decide ((x.1 : Int) ≤ ((getF fl d.n).length : Int)) = false := decide_eq_false (by omega)
      cases hk : d.k with
      | rm =>
        have kk : keepB fl (sub1 d x) = true := by
          unfold keepB sub1
          rw [hk]
        rw [k1, if_pos kk]
        refine ⟨H.length, [Ob.dct (fe (done fl (sub1 d x)))] ++ J, ?_, hnew⟩
        rw [← List.append_assoc]
        rw [hk] at h2
        simp -implicitDefEqProofs only [Stms.ev, Stm.ev, Ex.ev, Ex.evT, Exs.ev, Exs.evAnd, Exs.evOr, Exs.evTAnd, Exs.evTOr, Ox.ev, Ox.evT, Lx.ev, It.ev, v_c, v_bin, v_cmp, v_bl, v_isN, v_ntN, v_not, v_tru, v_asB, v_and, v_or, v_if, v_tup, v_nil, v_cons, v_sub, v_onone, v_osome, v_slice, v_call, v_glb, v_ofE, v_disp, v_cat, v_bi1, v_biL, v_isi, v_inS, v_sidx, v_join, v_subL, v_new, v_dct, v_lenSet, v_attr, v_meth, v_nox, v_dct0, v_dcp, v_dget, v_dpop, v_chain, v_tupE, v_min2, v_listT, v_sortS, v_neL, strE, refE, q_v_setI, q_v_setA, q_v_augA, q_v_parA, v_yes, v_itL, v_itA, v_itR1, v_itR2, v_lc, q_v_asg, q_v_par, q_v_setD, q_v_expr, q_v_app, q_v_if, q_v_for, q_v_ret, o_add, o_sub, c_lt, c_le, c_gt, c_ge, a_add, R.bind_ok, R.bind_ex, R.bind_bad, R.st_ok, R.st_ex, R.st_bad, RS.seq_nx, RS.seq_rt, RS.seq_ex, RS.seq_bk, RS.seq_ct, RS.seq_bad, optR_some, optR_none, Tg.set, setAll, asB, Lt.truthy, isNon, biLE, getL_tmp, getM_tmp, Option.isSome_some, reduceIte, if_true, if_false, Bool.false_eq_true, Option.map_some, w0, w1, w2, w3, w4, w5, w6, w7, w8, w9, w10, w11, w12, w13, w14, w15, w16, w17, w18, w19, w20, w21, w22, w23, w24, x0, x1, x2, x3, x4, x5, x6, x7, x8, x9, x10, x11, x12, x13, x14, x15, x16, x17, x18, x19, x20, x21, x22, x23, x24, z0, z1, z2, z3, z4, z5, z6, z7, z8, z9, z10, z11, z12, z13, z14, z15, z16, z17, z18, z19, z20, z21, z22, z23, z24, y0, y1, y2, y3, y4, y5, y6, y7, y8, y9, y10, y11, y12, y13, y14, y15, y16, y17, y18, y19, y20, y21, y22, y23, y24, b6_0, tlS, c_eqS, k_rr, ln4, h2, hcast]
      | ct =>
        have kk : keepB fl (sub1 d x) = false := by
          unfold keepB sub1
          rw [hk]
          exact decide_eq_false hl
        rw [k1, kk]
        refine ⟨fd, [], ?_, by rw [List.append_nil]; exact hf⟩
        simp -implicitDefEqProofs only [Stms.ev, Stm.ev, Ex.ev, Ex.evT, Exs.ev, Exs.evAnd, Exs.evOr, Exs.evTAnd, Exs.evTOr, Ox.ev, Ox.evT, Lx.ev, It.ev, v_c, v_bin, v_cmp, v_bl, v_isN, v_ntN, v_not, v_tru, v_asB, v_and, v_or, v_if, v_tup, v_nil, v_cons, v_sub, v_onone, v_osome, v_slice, v_call, v_glb, v_ofE, v_disp, v_cat, v_bi1, v_biL, v_isi, v_inS, v_sidx, v_join, v_subL, v_new, v_dct, v_lenSet, v_attr, v_meth, v_nox, v_dct0, v_dcp, v_dget, v_dpop, v_chain, v_tupE, v_min2, v_listT, v_sortS, v_neL, strE, refE, q_v_setI, q_v_setA, q_v_augA, q_v_parA, v_yes, v_itL, v_itA, v_itR1, v_itR2, v_lc, q_v_asg, q_v_par, q_v_setD, q_v_expr, q_v_app, q_v_if, q_v_for, q_v_ret, o_add, o_sub, c_lt, c_le, c_gt, c_ge, a_add, R.bind_ok, R.bind_ex, R.bind_bad, R.st_ok, R.st_ex, R.st_bad, RS.seq_nx, RS.seq_rt, RS.seq_ex, RS.seq_bk, RS.seq_ct, RS.seq_bad, optR_some, optR_none, Tg.set, setAll, asB, Lt.truthy, isNon, biLE, getL_tmp, getM_tmp, Option.isSome_some, reduceIte, if_true, if_false, Bool.false_eq_true, Option.map_some, w0, w1, w2, w3, w4, w5, w6, w7, w8, w9, w10, w11, w12, w13, w14, w15, w16, w17, w18, w19, w20, w21, w22, w23, w24, x0, x1, x2, x3, x4, x5, x6, x7, x8, x9, x10, x11, x12, x13, x14, x15, x16, x17, x18, x19, x20, x21, x22, x23, x24, z0, z1, z2, z3, z4, z5, z6, z7, z8, z9, z10, z11, z12, z13, z14, z15, z16, z17, z18, z19, z20, z21, z22, z23, z24, y0, y1, y2, y3, y4, y5, y6, y7, y8, y9, y10, y11, y12, y13, y14, y15, y16, y17, y18, y19, y20, y21, y22, y23, y24, b6_0, tlS, c_eqS, k_cr, hd1, g0, fe_get, len_tup, bi1E, c2, hcast, List.append_nil]
      | wr =>
        have kk : keepB fl (sub1 d x) = false := by
          unfold keepB sub1
          rw [hk]
          exact decide_eq_false hl
        rw [k1, kk]
        refine ⟨fd, [], ?_, by rw [List.append_nil]; exact hf⟩
        simp -implicitDefEqProofs only [Stms.ev, Stm.ev, Ex.ev, Ex.evT, Exs.ev, Exs.evAnd, Exs.evOr, Exs.evTAnd, Exs.evTOr, Ox.ev, Ox.evT, Lx.ev, It.ev, v_c, v_bin, v_cmp, v_bl, v_isN, v_ntN, v_not, v_tru, v_asB, v_and, v_or, v_if, v_tup, v_nil, v_cons, v_sub, v_onone, v_osome, v_slice, v_call, v_glb, v_ofE, v_disp, v_cat, v_bi1, v_biL, v_isi, v_inS, v_sidx, v_join, v_subL, v_new, v_dct, v_lenSet, v_attr, v_meth, v_nox, v_dct0, v_dcp, v_dget, v_dpop, v_chain, v_tupE, v_min2, v_listT, v_sortS, v_neL, strE, refE, q_v_setI, q_v_setA, q_v_augA, q_v_parA, v_yes, v_itL, v_itA, v_itR1, v_itR2, v_lc, q_v_asg, q_v_par, q_v_setD, q_v_expr, q_v_app, q_v_if, q_v_for, q_v_ret, o_add, o_sub, c_lt, c_le, c_gt, c_ge, a_add, R.bind_ok, R.bind_ex, R.bind_bad, R.st_ok, R.st_ex, R.st_bad, RS.seq_nx, RS.seq_rt, RS.seq_ex, RS.seq_bk, RS.seq_ct, RS.seq_bad, optR_some, optR_none, Tg.set, setAll, asB, Lt.truthy, isNon, biLE, getL_tmp, getM_tmp, Option.isSome_some, reduceIte, if_true, if_false, Bool.false_eq_true, Option.map_some, w0, w1, w2, w3, w4, w5, w6, w7, w8, w9, w10, w11, w12, w13, w14, w15, w16, w17, w18, w19, w20, w21, w22, w23, w24, x0, x1, x2, x3, x4, x5, x6, x7, x8, x9, x10, x11, x12, x13, x14, x15, x16, x17, x18, x19, x20, x21, x22, x23, x24, z0, z1, z2, z3, z4, z5, z6, z7, z8, z9, z10, z11, z12, z13, z14, z15, z16, z17, z18, z19, z20, z21, z22, z23, z24, y0, y1, y2, y3, y4, y5, y6, y7, y8, y9, y10, y11, y12, y13, y14, y15, y16, y17, y18, y19, y20, y21, y22, y23, y24, b6_0, tlS, c_eqS, k_wr, hd1, g0, fe_get, len_tup, bi1E, c2, hcast, List.append_nil]
  · have b : decide (pk ps i % 2 = 1) = false := decide_eq_false hp
    rw [show (ls1 ps d (fl, i) x).1 = fl by unfold ls1; dsimp only; rw [b]; rfl, b]
    refine ⟨fd, [], ?_, by rw [List.append_nil]; exact hf⟩
    simp -implicitDefEqProofs only [Stms.ev, Stm.ev, Ex.ev, Ex.evT, Exs.ev, Exs.evAnd, Exs.evOr, Exs.evTAnd, Exs.evTOr, Ox.ev, Ox.evT, Lx.ev, It.ev, v_c, v_bin, v_cmp, v_bl, v_isN, v_ntN, v_not, v_tru, v_asB, v_and, v_or, v_if, v_tup, v_nil, v_cons, v_sub, v_onone, v_osome, v_slice, v_call, v_glb, v_ofE, v_disp, v_cat, v_bi1, v_biL, v_isi, v_inS, v_sidx, v_join, v_subL, v_new, v_dct, v_lenSet, v_attr, v_meth, v_nox, v_dct0, v_dcp, v_dget, v_dpop, v_chain, v_tupE, v_min2, v_listT, v_sortS, v_neL, strE, refE, q_v_setI, q_v_setA, q_v_augA, q_v_parA, v_yes, v_itL, v_itA, v_itR1, v_itR2, v_lc, q_v_asg, q_v_par, q_v_setD, q_v_expr, q_v_app, q_v_if, q_v_for, q_v_ret, o_add, o_sub, c_lt, c_le, c_gt, c_ge, a_add, R.bind_ok, R.bind_ex, R.bind_bad, R.st_ok, R.st_ex, R.st_bad, RS.seq_nx, RS.seq_rt, RS.seq_ex, RS.seq_bk, RS.seq_ct, RS.seq_bad, optR_some, optR_none, Tg.set, setAll, asB, Lt.truthy, isNon, biLE, getL_tmp, getM_tmp, Option.isSome_some, reduceIte, if_true, if_false, Bool.false_eq_true, Option.map_some, w0, w1, w2, w3, w4, w5, w6, w7, w8, w9, w10, w11, w12, w13, w14, w15, w16, w17, w18, w19, w20, w21, w22, w23, w24, x0, x1, x2, x3, x4, x5, x6, x7, x8, x9, x10, x11, x12, x13, x14, x15, x16, x17, x18, x19, x20, x21, x22, x23, x24, z0, z1, z2, z3, z4, z5, z6, z7, z8, z9, z10, z11, z12, z13, z14, z15, z16, z17, z18, z19, z20, z21, z22, z23, z24, y0, y1, y2, y3, y4, y5, y6, y7, y8, y9, y10, y11, y12, y13, y14, y15, y16, y17, y18, y19, y20, y21, y22, y23, y24, b6_0, tlS, hcast, List.append_nil]
theorem ll_in {d : Dd} {ps : List Nat} {L : Nat} {all : List (Nat × List Nat)} {tg : Tg} (htg : tg = .tup [⟨9, "begin", ⟨173, 12, 173, 17⟩⟩, ⟨11, "part", ⟨173, 19, 173, 23⟩⟩] 0 ⟨173, 12, 173, 23⟩) {s1 s6 s7 s8 s10 : Option E} (hn : d.n ∈ names4) : ∀ (xs : List (Nat × List Nat)) (H : Hq) (fd M i : Nat) (fl : Fl) (v9 v11 v12 : Option E), H[fd]? = some (.dct (fe fl)) → H[L]? = some (.lst (all.map pe)) → Gd fl M → M + sums xs ≤ 50000 →
    ∃ fd' J u9 u11 u12, forS (some L) (all.map pe) tg (b6_0.ev (Pn (k + 1))) (xs.map pe) [some (.ref fd), s1, some (.tup (nats ps)), some (.int (i : Int)), some (.str d.k.s), some (.str d.n), s6, s7, s8, v9, s10, v11, v12] H = .nx [some (.ref fd'), s1, some (.tup (nats ps)), some (.int ((i + xs.length : Nat) : Int)), some (.str d.k.s), some (.str d.n), s6, s7, s8, u9, s10, u11, u12] (H ++ J) ∧
      (H ++ J)[fd']? = some (.dct (fe (xs.foldl (ls1 ps d) (fl, i)).1))
  | [], H, fd, M, i, fl, v9, v11, v12, hf, hL, hG, hM => ⟨fd, [], v9, v11, v12, by rw [List.map_nil, for_end (stays_at hL), List.append_nil]; rfl, by rw [List.append_nil]; exact hf⟩
  | x :: xs, H, fd, M, i, fl, v9, v11, v12, hf, hL, hG, hM => by
    rw [sums_cons] at hM
    obtain ⟨fd1, J1, e1, h1⟩ := ll_turn (k := k) (x := x) (ps := ps) (i := i) (s1 := s1) (s6 := s6) (s7 := s7) (s8 := s8) (s10 := s10) hf hG hn (by omega)
    obtain ⟨fd2, J2, u9, u11, u12, e2, h2⟩ := ll_in (L := L) (all := all) htg (s1 := s1) (s6 := s6) (s7 := s7) (s8 := s8) (s10 := s10) hn xs (H ++ J1) fd1 (M + x.2.length) (i + 1) (ls1 ps d (fl, i) x).1 (some (.int (x.1 : Int))) (some (.tup (nats x.2))) (some (.bl (decide (pk ps i % 2 = 1)))) h1 (get_app hL) (hG.ls1 hn) (by omega)
    rw [List.append_assoc] at e2 h2
    refine ⟨fd2, J1 ++ J2, u9, u11, u12, ?_, h2⟩
    have ht : b6_0.ev (Pn (k + 1)) [some (.ref fd), s1, some (.tup (nats ps)), some (.int (i : Int)), some (.str d.k.s), some (.str d.n), s6, s7, s8, some (.int (x.1 : Int)), s10, some (.tup (nats x.2)), v12] H = .nx [some (.ref fd1), s1, some (.tup (nats ps)), some (.int ((i + 1 : Nat) : Int)), some (.str d.k.s), some (.str d.n), s6, s7, s8, some (.int (x.1 : Int)), s10, some (.tup (nats x.2)), some (.bl (decide (pk ps i % 2 = 1)))] (H ++ J1) := by
      have e0 : b6_0.ev (Pn (k + 1)) [some (.ref fd), s1, some (.tup (nats ps)), some (.int (i : Int)), some (.str d.k.s), some (.str d.n), s6, s7, s8, some (.int (x.1 : Int)), s10, some (.tup (nats x.2)), v12] H = ((hdS b6_0).ev (Pn (k + 1)) [some (.ref fd), s1, some (.tup (nats ps)), some (.int (i : Int)), some (.str d.k.s), some (.str d.n), s6, s7, s8, some (.int (x.1 : Int)), s10, some (.tup (nats x.2)), v12] H).seq ((tlS b6_0).ev (Pn (k + 1))) := rfl
      rw [e0, ll_pick, RS.seq_nx, e1]
    subst htg
    rw [List.map_cons, for_nx (ρ1 := [some (.ref fd), s1, some (.tup (nats ps)), some (.int (i : Int)), some (.str d.k.s), some (.str d.n), s6, s7, s8, some (.int (x.1 : Int)), s10, some (.tup (nats x.2)), v12]) (stays_at hL) rfl ht, e2, List.length_cons]
    rw [show i + 1 + xs.length = i + (xs.length + 1) by omega]
/-! the law's own pieces -/
theorem lp_turn {G : Hq} {p at_ : Nat} {r : List Nat} {acc : List E} {s0 s1 s2 s3 s4 s5 s11 s12 v : Option E} (h : at_ < r.length) (hl : acc.length ≤ 1000000) :
    b6_2.ev (Pn k) [s0, s1, s2, s3, s4, s5, some (.int (p : Int)), some (.tup (nats r)), some (.ref G.length), some (.int ((p + at_ : Nat) : Int)), v, s11, s12] (G ++ [.lst acc]) =
      .nx [s0, s1, s2, s3, s4, s5, some (.int (p : Int)), some (.tup (nats r)), some (.ref G.length), some (.int ((p + (at_ + min (r.length - at_) (16 - (p + at_) % 16)) : Nat) : Int)), some (.int ((p + (at_ + min (r.length - at_) (16 - (p + at_) % 16)) : Nat) : Int)), s11, s12] (G ++ [.lst (acc ++ [pe (p + at_, (r.drop at_).take (min (r.length - at_) (16 - (p + at_) % 16)))])]) := by
  have q : (0 : Int) < 16 := by decide
  have q2 : (16 : Int) < 1073741824 := by decide
  have mm : ∀ j : Int, mulOk 16 j = true := fun j => mulOk_l (by decide)
  have e1 : ((p : Int) + (r.length : Int)) = ((p + r.length : Nat) : Int) := by omega
  have e2 : ((16 : Int) * (((p + at_ : Nat) : Int) / 16) + 16) = ((16 * ((p + at_) / 16) + 16 : Nat) : Int) := by omega
  have hm := minE_nat (i := p + r.length) (j := 16 * ((p + at_) / 16) + 16)
  have e3 : min (p + r.length) (16 * ((p + at_) / 16) + 16) = p + (at_ + min (r.length - at_) (16 - (p + at_) % 16)) := by omega
  rw [e3] at hm
  generalize hsz : min (r.length - at_) (16 - (p + at_) % 16) = sz at *
  have e4 : (((p + at_ : Nat) : Int) - (p : Int)) = (at_ : Int) := by omega
  have e5 : (((p + (at_ + sz) : Nat) : Int) - (p : Int)) = ((at_ + sz : Nat) : Int) := by omega
  have hc := cut_nats (row := r) (a := at_) (b := at_ + sz)
  rw [Nat.add_sub_cancel_left] at hc
  have lt : (acc.length < sizeLine) = True := line_lt hl
  simp -implicitDefEqProofs only [Stms.ev, Stm.ev, Ex.ev, Ex.evT, Exs.ev, Exs.evAnd, Exs.evOr, Exs.evTAnd, Exs.evTOr, Ox.ev, Ox.evT, Lx.ev, It.ev, v_c, v_bin, v_cmp, v_bl, v_isN, v_ntN, v_not, v_tru, v_asB, v_and, v_or, v_if, v_tup, v_nil, v_cons, v_sub, v_onone, v_osome, v_slice, v_call, v_glb, v_ofE, v_disp, v_cat, v_bi1, v_biL, v_isi, v_inS, v_sidx, v_join, v_subL, v_new, v_dct, v_lenSet, v_attr, v_meth, v_nox, v_dct0, v_dcp, v_dget, v_dpop, v_chain, v_tupE, v_min2, v_listT, v_sortS, v_neL, strE, refE, q_v_setI, q_v_setA, q_v_augA, q_v_parA, v_yes, v_itL, v_itA, v_itR1, v_itR2, v_lc, q_v_asg, q_v_par, q_v_setD, q_v_expr, q_v_app, q_v_if, q_v_for, q_v_ret, o_add, o_sub, c_lt, c_le, c_gt, c_ge, a_add, R.bind_ok, R.bind_ex, R.bind_bad, R.st_ok, R.st_ex, R.st_bad, RS.seq_nx, RS.seq_rt, RS.seq_ex, RS.seq_bk, RS.seq_ct, RS.seq_bad, optR_some, optR_none, Tg.set, setAll, asB, Lt.truthy, isNon, biLE, getL_tmp, getM_tmp, Option.isSome_some, reduceIte, if_true, if_false, Bool.false_eq_true, Option.map_some, w0, w1, w2, w3, w4, w5, w6, w7, w8, w9, w10, w11, w12, w13, w14, w15, w16, w17, w18, w19, w20, w21, w22, w23, w24, x0, x1, x2, x3, x4, x5, x6, x7, x8, x9, x10, x11, x12, x13, x14, x15, x16, x17, x18, x19, x20, x21, x22, x23, x24, z0, z1, z2, z3, z4, z5, z6, z7, z8, z9, z10, z11, z12, z13, z14, z15, z16, z17, z18, z19, z20, z21, z22, z23, z24, y0, y1, y2, y3, y4, y5, y6, y7, y8, y9, y10, y11, y12, y13, y14, y15, y16, y17, y18, y19, y20, y21, y22, y23, y24, b6_2, len_tup, bi1E, glb0, o_fdiv q q2, o_mul (mm _), e1, e2, hm, e4, e5, hc, ln2, getL_new, get_new, lt, set_new]
  rfl
theorem lp_loop {G : Hq} {p : Nat} {r : List Nat} {s0 s1 s2 s3 s4 s5 s11 s12 : Option E} : ∀ (fuel at_ : Nat) (acc : List E) (v : Option E), r.length - at_ < fuel → acc.length + (r.length - at_) ≤ 1000000 →
    ∃ v2 u3, whilS (b6_1.evT (Pn k)) (b6_2.ev (Pn k)) fuel [s0, s1, s2, s3, s4, s5, some (.int (p : Int)), some (.tup (nats r)), some (.ref G.length), some (.int ((p + at_ : Nat) : Int)), v, s11, s12] (G ++ [.lst acc]) =
      .nx [s0, s1, s2, s3, s4, s5, some (.int (p : Int)), some (.tup (nats r)), some (.ref G.length), u3, v2, s11, s12] (G ++ [.lst (acc ++ (pcs p r at_).map pe)])
  | 0, at_, acc, v, h, _ => by omega
  | fuel + 1, at_, acc, v, h, ha => by
    by_cases hl : at_ < r.length
    · have c : b6_1.evT (Pn k) [s0, s1, s2, s3, s4, s5, some (.int (p : Int)), some (.tup (nats r)), some (.ref G.length), some (.int ((p + at_ : Nat) : Int)), v, s11, s12] (G ++ [.lst acc]) = .ok true (G ++ [.lst acc]) := by
        have d : decide (((p + at_ : Nat) : Int) < (p : Int) + (r.length : Int)) = true := decide_eq_true (by omega)
        simp -implicitDefEqProofs only [Stms.ev, Stm.ev, Ex.ev, Ex.evT, Exs.ev, Exs.evAnd, Exs.evOr, Exs.evTAnd, Exs.evTOr, Ox.ev, Ox.evT, Lx.ev, It.ev, v_c, v_bin, v_cmp, v_bl, v_isN, v_ntN, v_not, v_tru, v_asB, v_and, v_or, v_if, v_tup, v_nil, v_cons, v_sub, v_onone, v_osome, v_slice, v_call, v_glb, v_ofE, v_disp, v_cat, v_bi1, v_biL, v_isi, v_inS, v_sidx, v_join, v_subL, v_new, v_dct, v_lenSet, v_attr, v_meth, v_nox, v_dct0, v_dcp, v_dget, v_dpop, v_chain, v_tupE, v_min2, v_listT, v_sortS, v_neL, strE, refE, q_v_setI, q_v_setA, q_v_augA, q_v_parA, v_yes, v_itL, v_itA, v_itR1, v_itR2, v_lc, q_v_asg, q_v_par, q_v_setD, q_v_expr, q_v_app, q_v_if, q_v_for, q_v_ret, o_add, o_sub, c_lt, c_le, c_gt, c_ge, a_add, R.bind_ok, R.bind_ex, R.bind_bad, R.st_ok, R.st_ex, R.st_bad, RS.seq_nx, RS.seq_rt, RS.seq_ex, RS.seq_bk, RS.seq_ct, RS.seq_bad, optR_some, optR_none, Tg.set, setAll, asB, Lt.truthy, isNon, biLE, getL_tmp, getM_tmp, Option.isSome_some, reduceIte, if_true, if_false, Bool.false_eq_true, Option.map_some, w0, w1, w2, w3, w4, w5, w6, w7, w8, w9, w10, w11, w12, w13, w14, w15, w16, w17, w18, w19, w20, w21, w22, w23, w24, x0, x1, x2, x3, x4, x5, x6, x7, x8, x9, x10, x11, x12, x13, x14, x15, x16, x17, x18, x19, x20, x21, x22, x23, x24, z0, z1, z2, z3, z4, z5, z6, z7, z8, z9, z10, z11, z12, z13, z14, z15, z16, z17, z18, z19, z20, z21, z22, z23, z24, y0, y1, y2, y3, y4, y5, y6, y7, y8, y9, y10, y11, y12, y13, y14, y15, y16, y17, y18, y19, y20, y21, y22, y23, y24, b6_1, len_tup, bi1E, d]
      have ht := lp_turn (k := k) (G := G) (p := p) (acc := acc) (v := v) (s0 := s0) (s1 := s1) (s2 := s2) (s3 := s3) (s4 := s4) (s5 := s5) (s11 := s11) (s12 := s12) hl (by omega)
      obtain ⟨v2, u3, h2⟩ := lp_loop (G := G) (p := p) (r := r) (s0 := s0) (s1 := s1) (s2 := s2) (s3 := s3) (s4 := s4) (s5 := s5) (s11 := s11) (s12 := s12) fuel (at_ + min (r.length - at_) (16 - (p + at_) % 16)) (acc ++ [pe (p + at_, (r.drop at_).take (min (r.length - at_) (16 - (p + at_) % 16)))]) (some (.int ((p + (at_ + min (r.length - at_) (16 - (p + at_) % 16)) : Nat) : Int))) (by omega) (by rw [List.length_append]; simp; omega)
      refine ⟨v2, u3, ?_⟩
      unfold whilS
      rw [c, R.st_ok, if_pos rfl, ht]
      show whilS _ _ fuel _ _ = _
      rw [h2, pcs_more hl]
      simp
    · have c : b6_1.evT (Pn k) [s0, s1, s2, s3, s4, s5, some (.int (p : Int)), some (.tup (nats r)), some (.ref G.length), some (.int ((p + at_ : Nat) : Int)), v, s11, s12] (G ++ [.lst acc]) = .ok false (G ++ [.lst acc]) := by
        have d : decide (((p + at_ : Nat) : Int) < (p : Int) + (r.length : Int)) = false := decide_eq_false (by omega)
        simp -implicitDefEqProofs only [Stms.ev, Stm.ev, Ex.ev, Ex.evT, Exs.ev, Exs.evAnd, Exs.evOr, Exs.evTAnd, Exs.evTOr, Ox.ev, Ox.evT, Lx.ev, It.ev, v_c, v_bin, v_cmp, v_bl, v_isN, v_ntN, v_not, v_tru, v_asB, v_and, v_or, v_if, v_tup, v_nil, v_cons, v_sub, v_onone, v_osome, v_slice, v_call, v_glb, v_ofE, v_disp, v_cat, v_bi1, v_biL, v_isi, v_inS, v_sidx, v_join, v_subL, v_new, v_dct, v_lenSet, v_attr, v_meth, v_nox, v_dct0, v_dcp, v_dget, v_dpop, v_chain, v_tupE, v_min2, v_listT, v_sortS, v_neL, strE, refE, q_v_setI, q_v_setA, q_v_augA, q_v_parA, v_yes, v_itL, v_itA, v_itR1, v_itR2, v_lc, q_v_asg, q_v_par, q_v_setD, q_v_expr, q_v_app, q_v_if, q_v_for, q_v_ret, o_add, o_sub, c_lt, c_le, c_gt, c_ge, a_add, R.bind_ok, R.bind_ex, R.bind_bad, R.st_ok, R.st_ex, R.st_bad, RS.seq_nx, RS.seq_rt, RS.seq_ex, RS.seq_bk, RS.seq_ct, RS.seq_bad, optR_some, optR_none, Tg.set, setAll, asB, Lt.truthy, isNon, biLE, getL_tmp, getM_tmp, Option.isSome_some, reduceIte, if_true, if_false, Bool.false_eq_true, Option.map_some, w0, w1, w2, w3, w4, w5, w6, w7, w8, w9, w10, w11, w12, w13, w14, w15, w16, w17, w18, w19, w20, w21, w22, w23, w24, x0, x1, x2, x3, x4, x5, x6, x7, x8, x9, x10, x11, x12, x13, x14, x15, x16, x17, x18, x19, x20, x21, x22, x23, x24, z0, z1, z2, z3, z4, z5, z6, z7, z8, z9, z10, z11, z12, z13, z14, z15, z16, z17, z18, z19, z20, z21, z22, z23, z24, y0, y1, y2, y3, y4, y5, y6, y7, y8, y9, y10, y11, y12, y13, y14, y15, y16, y17, y18, y19, y20, y21, y22, y23, y24, b6_1, len_tup, bi1E, d]
      refine ⟨v, some (.int ((p + at_ : Nat) : Int)), ?_⟩
      unfold whilS
      rw [c, R.st_ok, pcs_end hl, List.map_nil, List.append_nil]
      rfl
end
end K02
end
section
set_option Elab.async false
set_option linter.all false
set_option maxRecDepth 100000
set_option maxHeartbeats 1000000
/-! k02: the law's own loss, whole. -/
namespace K02
open PySem Lt
section
variable {H : Hq} {k : Nat}
theorem ll_out {ps : List Nat} {wr : Nat} {all : List Dd} {tg : Tg} (htg : tg = .tup [⟨4, "kind", ⟨164, 8, 164, 12⟩⟩, ⟨5, "name", ⟨164, 14, 164, 18⟩⟩, ⟨6, "place", ⟨164, 20, 164, 25⟩⟩, ⟨7, "row", ⟨164, 27, 164, 30⟩⟩] 0 ⟨164, 8, 164, 30⟩) {s1 : Option E} : ∀ (ds : List Dd) (H : Hq) (fd M i : Nat) (fl : Fl) (v4 v5 v6 v7 v8 v9 v10 v11 v12 : Option E), H[fd]? = some (.dct (fe fl)) → H[wr]? = some (.lst (all.map Dd.e)) → Gd fl M → (∀ d ∈ ds, d.n ∈ names4 ∧ d.r.length ≤ 50) → M + 50 * ds.length ≤ 50000 →
    ∃ fd' i' J u4 u5 u6 u7 u8 u9 u10 u11 u12, forS (some wr) (all.map Dd.e) tg (b6_3.ev (Pn (k + 1))) (ds.map Dd.e) [some (.ref fd), s1, some (.tup (nats ps)), some (.int (i : Int)), v4, v5, v6, v7, v8, v9, v10, v11, v12] H = .nx [some (.ref fd'), s1, some (.tup (nats ps)), some (.int ((i' : Nat) : Int)), u4, u5, u6, u7, u8, u9, u10, u11, u12] (H ++ J) ∧
      (H ++ J)[fd']? = some (.dct (fe (ds.foldl (lsD ps) (fl, i)).1))
  | [], H, fd, M, i, fl, v4, v5, v6, v7, v8, v9, v10, v11, v12, hf, hw, hG, hd, hM => ⟨fd, i, [], v4, v5, v6, v7, v8, v9, v10, v11, v12, by rw [List.map_nil, for_end (stays_at hw), List.append_nil], by rw [List.append_nil]; exact hf⟩
  | d :: ds, H, fd, M, i, fl, v4, v5, v6, v7, v8, v9, v10, v11, v12, hf, hw, hG, hd, hM => by
    rw [List.length_cons] at hM
    have hd0 := hd d List.mem_cons_self
    have hsum := pcD_sum d
    have hL : (H ++ [Ob.lst ((pcD d).map pe)])[H.length]? = some (.lst ((pcD d).map pe)) := get_new
    have hat : (lsD ps (fl, i) d).2 = i + (pcD d).length := lsF_at _ _
    have hG1 : Gd (lsD ps (fl, i) d).1 (M + 50) := (hG.lsD hd0.1).mono (by omega)
    have it := it_at hL
    obtain ⟨fd1, J1, q, h1⟩ : ∃ fd1 J1, (∃ t9 t10 t11 t12, b6_3.ev (Pn (k + 1)) [some (.ref fd), s1, some (.tup (nats ps)), some (.int (i : Int)), some (.str d.k.s), some (.str d.n), some (.int (d.p : Int)), some (.tup (nats d.r)), v8, v9, v10, v11, v12] H = .nx [some (.ref fd1), s1, some (.tup (nats ps)), some (.int ((i + (pcD d).length : Nat) : Int)), some (.str d.k.s), some (.str d.n), some (.int (d.p : Int)), some (.tup (nats d.r)), some (.ref H.length), t9, t10, t11, t12] (H ++ J1)) ∧ (H ++ J1)[fd1]? = some (.dct (fe (lsD ps (fl, i) d).1)) := by
      cases hk : d.k with
      | wr =>
        obtain ⟨q10, q9, hl⟩ := lp_loop (k := k + 1) (G := H) (p := d.p) (r := d.r) (s0 := some (.ref fd)) (s1 := s1) (s2 := some (.tup (nats ps))) (s3 := some (.int (i : Int))) (s4 := some (.str d.k.s)) (s5 := some (.str d.n)) (s11 := v11) (s12 := v12) 100000 0 [] v10 (by omega) (by simp; omega)
        obtain ⟨fd1, J1, t9, t11, t12, e1, h1⟩ := ll_in (k := k) (d := d) (ps := ps) (L := H.length) (all := pcD d) rfl (s1 := s1) (s6 := some (.int (d.p : Int))) (s7 := some (.tup (nats d.r))) (s8 := some (.ref H.length)) (s10 := q10) hd0.1 (pcD d) _ fd M i fl q9 v11 v12 (get_app hf) hL hG (by omega)
        refine ⟨fd1, [Ob.lst ((pcD d).map pe)] ++ J1, ⟨t9, q10, t11, t12, ?_⟩, by rw [← List.append_assoc]; exact h1⟩
        rw [List.nil_append, show pcs d.p d.r 0 = pcD d by unfold pcD; rw [hk]] at hl
        have kk : decide (Kd.wr.s = ("write" : Str)) = true := by decide +kernel
        rw [hk] at e1 hl
        have hl : whilS (b6_1.evT (Pn (k + 1))) (b6_2.ev (Pn (k + 1))) (Pn (k + 1)).wf [some (.ref fd), s1, some (.tup (nats ps)), some (.int (i : Int)), some (.str Kd.wr.s), some (.str d.n), some (.int (d.p : Int)), some (.tup (nats d.r)), some (.ref H.length), some (.int (d.p : Int)), v10, v11, v12] (H ++ [.lst []]) = _ := hl
        simp -implicitDefEqProofs only [Stms.ev, Stm.ev, Ex.ev, Ex.evT, Exs.ev, Exs.evAnd, Exs.evOr, Exs.evTAnd, Exs.evTOr, Ox.ev, Ox.evT, Lx.ev, It.ev, v_c, v_bin, v_cmp, v_bl, v_isN, v_ntN, v_not, v_tru, v_asB, v_and, v_or, v_if, v_tup, v_nil, v_cons, v_sub, v_onone, v_osome, v_slice, v_call, v_glb, v_ofE, v_disp, v_cat, v_bi1, v_biL, v_isi, v_inS, v_sidx, v_join, v_subL, v_new, v_dct, v_lenSet, v_attr, v_meth, v_nox, v_dct0, v_dcp, v_dget, v_dpop, v_chain, v_tupE, v_min2, v_listT, v_sortS, v_neL, strE, refE, q_v_setI, q_v_setA, q_v_augA, q_v_parA, v_yes, v_itL, v_itA, v_itR1, v_itR2, v_lc, q_v_asg, q_v_par, q_v_setD, q_v_expr, q_v_app, q_v_if, q_v_for, q_v_ret, o_add, o_sub, c_lt, c_le, c_gt, c_ge, a_add, R.bind_ok, R.bind_ex, R.bind_bad, R.st_ok, R.st_ex, R.st_bad, RS.seq_nx, RS.seq_rt, RS.seq_ex, RS.seq_bk, RS.seq_ct, RS.seq_bad, optR_some, optR_none, Tg.set, setAll, asB, Lt.truthy, isNon, biLE, getL_tmp, getM_tmp, Option.isSome_some, reduceIte, if_true, if_false, Bool.false_eq_true, Option.map_some, w0, w1, w2, w3, w4, w5, w6, w7, w8, w9, w10, w11, w12, w13, w14, w15, w16, w17, w18, w19, w20, w21, w22, w23, w24, x0, x1, x2, x3, x4, x5, x6, x7, x8, x9, x10, x11, x12, x13, x14, x15, x16, x17, x18, x19, x20, x21, x22, x23, x24, z0, z1, z2, z3, z4, z5, z6, z7, z8, z9, z10, z11, z12, z13, z14, z15, z16, z17, z18, z19, z20, z21, z22, z23, z24, y0, y1, y2, y3, y4, y5, y6, y7, y8, y9, y10, y11, y12, y13, y14, y15, y16, y17, y18, y19, y20, y21, y22, y23, y24, b6_3, ln0, c_eqS, kk, hl, it, e1]
        rw [List.append_assoc]
      | ct =>
        obtain ⟨fd1, J1, t9, t11, t12, e1, h1⟩ := ll_in (k := k) (d := d) (ps := ps) (L := H.length) (all := pcD d) rfl (s1 := s1) (s6 := some (.int (d.p : Int))) (s7 := some (.tup (nats d.r))) (s8 := some (.ref H.length)) (s10 := v10) hd0.1 (pcD d) _ fd M i fl (some (.int (d.p : Int))) v11 v12 (get_app hf) hL hG (by omega)
        refine ⟨fd1, [Ob.lst ((pcD d).map pe)] ++ J1, ⟨t9, v10, t11, t12, ?_⟩, by rw [← List.append_assoc]; exact h1⟩
        have kk : decide (Kd.ct.s = ("write" : Str)) = false := by decide +kernel
        have hp : [E.tup [.int (d.p : Int), .tup (nats d.r)]] = (pcD d).map pe := by unfold pcD; rw [hk]; rfl
        have l0 : (([] : List E).length < sizeLine) = True := line_lt (by simp)
        rw [hk] at e1
        simp -implicitDefEqProofs only [Stms.ev, Stm.ev, Ex.ev, Ex.evT, Exs.ev, Exs.evAnd, Exs.evOr, Exs.evTAnd, Exs.evTOr, Ox.ev, Ox.evT, Lx.ev, It.ev, v_c, v_bin, v_cmp, v_bl, v_isN, v_ntN, v_not, v_tru, v_asB, v_and, v_or, v_if, v_tup, v_nil, v_cons, v_sub, v_onone, v_osome, v_slice, v_call, v_glb, v_ofE, v_disp, v_cat, v_bi1, v_biL, v_isi, v_inS, v_sidx, v_join, v_subL, v_new, v_dct, v_lenSet, v_attr, v_meth, v_nox, v_dct0, v_dcp, v_dget, v_dpop, v_chain, v_tupE, v_min2, v_listT, v_sortS, v_neL, strE, refE, q_v_setI, q_v_setA, q_v_augA, q_v_parA, v_yes, v_itL, v_itA, v_itR1, v_itR2, v_lc, q_v_asg, q_v_par, q_v_setD, q_v_expr, q_v_app, q_v_if, q_v_for, q_v_ret, o_add, o_sub, c_lt, c_le, c_gt, c_ge, a_add, R.bind_ok, R.bind_ex, R.bind_bad, R.st_ok, R.st_ex, R.st_bad, RS.seq_nx, RS.seq_rt, RS.seq_ex, RS.seq_bk, RS.seq_ct, RS.seq_bad, optR_some, optR_none, Tg.set, setAll, asB, Lt.truthy, isNon, biLE, getL_tmp, getM_tmp, Option.isSome_some, reduceIte, if_true, if_false, Bool.false_eq_true, Option.map_some, w0, w1, w2, w3, w4, w5, w6, w7, w8, w9, w10, w11, w12, w13, w14, w15, w16, w17, w18, w19, w20, w21, w22, w23, w24, x0, x1, x2, x3, x4, x5, x6, x7, x8, x9, x10, x11, x12, x13, x14, x15, x16, x17, x18, x19, x20, x21, x22, x23, x24, z0, z1, z2, z3, z4, z5, z6, z7, z8, z9, z10, z11, z12, z13, z14, z15, z16, z17, z18, z19, z20, z21, z22, z23, z24, y0, y1, y2, y3, y4, y5, y6, y7, y8, y9, y10, y11, y12, y13, y14, y15, y16, y17, y18, y19, y20, y21, y22, y23, y24, b6_3, ln0, c_eqS, kk, ln2, getL_new, get_new, l0, set_new, List.nil_append, hp, it, e1]
        rw [List.append_assoc]
      | rm =>
        obtain ⟨fd1, J1, t9, t11, t12, e1, h1⟩ := ll_in (k := k) (d := d) (ps := ps) (L := H.length) (all := pcD d) rfl (s1 := s1) (s6 := some (.int (d.p : Int))) (s7 := some (.tup (nats d.r))) (s8 := some (.ref H.length)) (s10 := v10) hd0.1 (pcD d) _ fd M i fl (some (.int (d.p : Int))) v11 v12 (get_app hf) hL hG (by omega)
        refine ⟨fd1, [Ob.lst ((pcD d).map pe)] ++ J1, ⟨t9, v10, t11, t12, ?_⟩, by rw [← List.append_assoc]; exact h1⟩
        have kk : decide (Kd.rm.s = ("write" : Str)) = false := by decide +kernel
        have hp : [E.tup [.int (d.p : Int), .tup (nats d.r)]] = (pcD d).map pe := by unfold pcD; rw [hk]; rfl
        have l0 : (([] : List E).length < sizeLine) = True := line_lt (by simp)
        rw [hk] at e1
        simp -implicitDefEqProofs only [Stms.ev, Stm.ev, Ex.ev, Ex.evT, Exs.ev, Exs.evAnd, Exs.evOr, Exs.evTAnd, Exs.evTOr, Ox.ev, Ox.evT, Lx.ev, It.ev, v_c, v_bin, v_cmp, v_bl, v_isN, v_ntN, v_not, v_tru, v_asB, v_and, v_or, v_if, v_tup, v_nil, v_cons, v_sub, v_onone, v_osome, v_slice, v_call, v_glb, v_ofE, v_disp, v_cat, v_bi1, v_biL, v_isi, v_inS, v_sidx, v_join, v_subL, v_new, v_dct, v_lenSet, v_attr, v_meth, v_nox, v_dct0, v_dcp, v_dget, v_dpop, v_chain, v_tupE, v_min2, v_listT, v_sortS, v_neL, strE, refE, q_v_setI, q_v_setA, q_v_augA, q_v_parA, v_yes, v_itL, v_itA, v_itR1, v_itR2, v_lc, q_v_asg, q_v_par, q_v_setD, q_v_expr, q_v_app, q_v_if, q_v_for, q_v_ret, o_add, o_sub, c_lt, c_le, c_gt, c_ge, a_add, R.bind_ok, R.bind_ex, R.bind_bad, R.st_ok, R.st_ex, R.st_bad, RS.seq_nx, RS.seq_rt, RS.seq_ex, RS.seq_bk, RS.seq_ct, RS.seq_bad, optR_some, optR_none, Tg.set, setAll, asB, Lt.truthy, isNon, biLE, getL_tmp, getM_tmp, Option.isSome_some, reduceIte, if_true, if_false, Bool.false_eq_true, Option.map_some, w0, w1, w2, w3, w4, w5, w6, w7, w8, w9, w10, w11, w12, w13, w14, w15, w16, w17, w18, w19, w20, w21, w22, w23, w24, x0, x1, x2, x3, x4, x5, x6, x7, x8, x9, x10, x11, x12, x13, x14, x15, x16, x17, x18, x19, x20, x21, x22, x23, x24, z0, z1, z2, z3, z4, z5, z6, z7, z8, z9, z10, z11, z12, z13, z14, z15, z16, z17, z18, z19, z20, z21, z22, z23, z24, y0, y1, y2, y3, y4, y5, y6, y7, y8, y9, y10, y11, y12, y13, y14, y15, y16, y17, y18, y19, y20, y21, y22, y23, y24, b6_3, ln0, c_eqS, kk, ln2, getL_new, get_new, l0, set_new, List.nil_append, hp, it, e1]
        rw [List.append_assoc]
    obtain ⟨t9, t10, t11, t12, ht⟩ := q
    obtain ⟨fd2, i2, J2, u4, u5, u6, u7, u8, u9, u10, u11, u12, e2, h2⟩ := ll_out (ps := ps) (wr := wr) (all := all) htg (s1 := s1) ds (H ++ J1) fd1 (M + 50) (i + (pcD d).length) (lsD ps (fl, i) d).1 (some (.str d.k.s)) (some (.str d.n)) (some (.int (d.p : Int))) (some (.tup (nats d.r))) (some (.ref H.length)) t9 t10 t11 t12 h1 (get_app hw) hG1 (fun x hx => hd x (List.mem_cons_of_mem _ hx)) (by omega)
    rw [List.append_assoc] at e2 h2
    refine ⟨fd2, i2, J1 ++ J2, u4, u5, u6, u7, u8, u9, u10, u11, u12, ?_, ?_⟩
    · subst htg
      rw [List.map_cons, for_nx (ρ1 := [some (.ref fd), s1, some (.tup (nats ps)), some (.int (i : Int)), some (.str d.k.s), some (.str d.n), some (.int (d.p : Int)), some (.tup (nats d.r)), v8, v9, v10, v11, v12]) (stays_at hw) rfl ht, e2]
    · rw [List.foldl_cons, show lsD ps (fl, i) d = ((lsD ps (fl, i) d).1, i + (pcD d).length) from Prod.ext rfl hat]
      exact h2
theorem law_lost_ok {fd wr M : Nat} {fl : Fl} {ds : List Dd} {ps : List Nat} (hf : H[fd]? = some (.dct (fe fl))) (hw : H[wr]? = some (.lst (ds.map Dd.e))) (hG : Gd fl M) (hd : ∀ d ∈ ds, d.n ∈ names4 ∧ d.r.length ≤ 50) (hM : M + 50 * ds.length ≤ 50000) :
    ∃ f2 J, cl (k + 2) 6 [.ref fd, .ref wr, .tup (nats ps)] H = .ok (.ref f2) (H ++ J) ∧ (H ++ J)[f2]? = some (.dct (fe (lost ps ds fl))) := by
  obtain ⟨f2, i2, J, u4, u5, u6, u7, u8, u9, u10, u11, u12, h1, h2⟩ := ll_out (k := k) (ps := ps) (all := ds) (wr := wr) rfl (s1 := some (.ref wr)) ds H fd M 0 fl none none none none none none none none none hf hw hG hd hM
  have h1 : forS (some wr) (ds.map Dd.e) _ (b6_3.ev (Pn (k + 1))) (ds.map Dd.e) [some (.ref fd), some (.ref wr), some (.tup (nats ps)), some (.int 0), none, none, none, none, none, none, none, none, none] H = _ := h1
  refine ⟨f2, J, ?_, h2⟩
  rw [cl_succ (fn := f6) rfl rfl]
  show endR false H (b6.ev (Pn (k + 1)) [some (.ref fd), some (.ref wr), some (.tup (nats ps)), none, none, none, none, none, none, none, none, none, none] H) = _
  have hi := it_at hw
  have e : b6.ev (Pn (k + 1)) [some (.ref fd), some (.ref wr), some (.tup (nats ps)), none, none, none, none, none, none, none, none, none, none] H = .rt (.ref f2) (H ++ J) := by
    simp -implicitDefEqProofs only [Stms.ev, Stm.ev, Ex.ev, Ex.evT, Exs.ev, Exs.evAnd, Exs.evOr, Exs.evTAnd, Exs.evTOr, Ox.ev, Ox.evT, Lx.ev, It.ev, v_c, v_bin, v_cmp, v_bl, v_isN, v_ntN, v_not, v_tru, v_asB, v_and, v_or, v_if, v_tup, v_nil, v_cons, v_sub, v_onone, v_osome, v_slice, v_call, v_glb, v_ofE, v_disp, v_cat, v_bi1, v_biL, v_isi, v_inS, v_sidx, v_join, v_subL, v_new, v_dct, v_lenSet, v_attr, v_meth, v_nox, v_dct0, v_dcp, v_dget, v_dpop, v_chain, v_tupE, v_min2, v_listT, v_sortS, v_neL, strE, refE, q_v_setI, q_v_setA, q_v_augA, q_v_parA, v_yes, v_itL, v_itA, v_itR1, v_itR2, v_lc, q_v_asg, q_v_par, q_v_setD, q_v_expr, q_v_app, q_v_if, q_v_for, q_v_ret, o_add, o_sub, c_lt, c_le, c_gt, c_ge, a_add, R.bind_ok, R.bind_ex, R.bind_bad, R.st_ok, R.st_ex, R.st_bad, RS.seq_nx, RS.seq_rt, RS.seq_ex, RS.seq_bk, RS.seq_ct, RS.seq_bad, optR_some, optR_none, Tg.set, setAll, asB, Lt.truthy, isNon, biLE, getL_tmp, getM_tmp, Option.isSome_some, reduceIte, if_true, if_false, Bool.false_eq_true, Option.map_some, w0, w1, w2, w3, w4, w5, w6, w7, w8, w9, w10, w11, w12, w13, w14, w15, w16, w17, w18, w19, w20, w21, w22, w23, w24, x0, x1, x2, x3, x4, x5, x6, x7, x8, x9, x10, x11, x12, x13, x14, x15, x16, x17, x18, x19, x20, x21, x22, x23, x24, z0, z1, z2, z3, z4, z5, z6, z7, z8, z9, z10, z11, z12, z13, z14, z15, z16, z17, z18, z19, z20, z21, z22, z23, z24, y0, y1, y2, y3, y4, y5, y6, y7, y8, y9, y10, y11, y12, y13, y14, y15, y16, y17, y18, y19, y20, y21, y22, y23, y24, b6, hi, h1]
  rw [e]
  rfl
end
end K02
end
section
set_option Elab.async false
set_option linter.all false
set_option maxRecDepth 100000
set_option maxHeartbeats 1000000
/-! The law's body and its turn, cut. Printed by cut2.py. -/
namespace K02
open PySem Lt
def qa0 : Stms := (.cons (.asg (.name ⟨10, "place", ⟨187, 12, 187, 17⟩⟩) (.call 3 "_law_take" (.cons (.var 1 "tape" ⟨187, 30, 187, 34⟩) (.cons (.bin .add (.var 9 "size" ⟨187, 36, 187, 40⟩) (.int 1 0 ⟨187, 43, 187, 44⟩) ⟨187, 36, 187, 44⟩) .nil)) ⟨187, 20, 187, 29⟩ ⟨187, 20, 187, 45⟩) ⟨187, 12, 187, 45⟩) (.cons (.asg (.name ⟨12, "row", ⟨188, 12, 188, 15⟩⟩) (.biL .tup (.lc b7_4 (.name ⟨11, "k", ⟨188, 50, 188, 51⟩⟩) (.r1 (.call 3 "_law_take" (.cons (.var 1 "tape" ⟨188, 71, 188, 75⟩) (.cons (.int 40 0 ⟨188, 77, 188, 79⟩) .nil)) ⟨188, 61, 188, 70⟩ ⟨188, 61, 188, 80⟩) ⟨188, 55, 188, 60⟩ ⟨188, 55, 188, 81⟩) .none sc4 [(".0", 18), ("k", 11)] ⟨188, 24, 188, 82⟩) ⟨188, 18, 188, 23⟩ ⟨188, 18, 188, 83⟩) ⟨188, 12, 188, 83⟩) (.cons (.expr (.meth (.var 17 "disk" ⟨189, 12, 189, 16⟩) "write" (.cons (.var 6 "name" ⟨189, 23, 189, 27⟩) (.cons (.var 10 "place" ⟨189, 29, 189, 34⟩) (.cons (.var 12 "row" ⟨189, 36, 189, 39⟩) .nil))) ⟨189, 12, 189, 22⟩ ⟨189, 12, 189, 40⟩) ⟨189, 12, 189, 40⟩) (.cons (.par ⟨3, "waiting", ⟨190, 12, 190, 19⟩⟩ ⟨4, "steps", ⟨190, 21, 190, 26⟩⟩ (.new (.cat (.ofE (.var 3 "waiting" ⟨190, 30, 190, 37⟩)) (.disp (.cons (.tup (.cons (.str "write" 0 ⟨190, 42, 190, 49⟩) (.cons (.var 6 "name" ⟨190, 51, 190, 55⟩) (.cons (.var 10 "place" ⟨190, 57, 190, 62⟩) (.cons (.var 12 "row" ⟨190, 64, 190, 67⟩) .nil)))) 0 ⟨190, 41, 190, 68⟩) .nil) ⟨190, 40, 190, 69⟩) ⟨190, 30, 190, 69⟩)) (.bin .add (.var 4 "steps" ⟨190, 71, 190, 76⟩) (.int 1 0 ⟨190, 79, 190, 80⟩) ⟨190, 71, 190, 80⟩) 0 0 ⟨190, 12, 190, 26⟩ ⟨190, 29, 190, 81⟩ ⟨190, 12, 190, 81⟩) .nil))))
def qa1 : Stms := (.cons (.asg (.name ⟨10, "place", ⟨192, 12, 192, 17⟩⟩) (.call 3 "_law_take" (.cons (.var 1 "tape" ⟨192, 30, 192, 34⟩) (.cons (.bin .add (.var 9 "size" ⟨192, 36, 192, 40⟩) (.int 1 0 ⟨192, 43, 192, 44⟩) ⟨192, 36, 192, 44⟩) .nil)) ⟨192, 20, 192, 29⟩ ⟨192, 20, 192, 45⟩) ⟨192, 12, 192, 45⟩) (.cons (.expr (.meth (.var 17 "disk" ⟨193, 12, 193, 16⟩) "cut" (.cons (.var 6 "name" ⟨193, 21, 193, 25⟩) (.cons (.var 10 "place" ⟨193, 27, 193, 32⟩) .nil)) ⟨193, 12, 193, 20⟩ ⟨193, 12, 193, 33⟩) ⟨193, 12, 193, 33⟩) (.cons (.par ⟨3, "waiting", ⟨194, 12, 194, 19⟩⟩ ⟨4, "steps", ⟨194, 21, 194, 26⟩⟩ (.new (.cat (.ofE (.var 3 "waiting" ⟨194, 30, 194, 37⟩)) (.disp (.cons (.tup (.cons (.str "cut" 0 ⟨194, 42, 194, 47⟩) (.cons (.var 6 "name" ⟨194, 49, 194, 53⟩) (.cons (.var 10 "place" ⟨194, 55, 194, 60⟩) (.cons (.tup .nil 0 ⟨194, 62, 194, 64⟩) .nil)))) 0 ⟨194, 41, 194, 65⟩) .nil) ⟨194, 40, 194, 66⟩) ⟨194, 30, 194, 66⟩)) (.bin .add (.var 4 "steps" ⟨194, 68, 194, 73⟩) (.int 1 0 ⟨194, 76, 194, 77⟩) ⟨194, 68, 194, 77⟩) 0 0 ⟨194, 12, 194, 26⟩ ⟨194, 29, 194, 78⟩ ⟨194, 12, 194, 78⟩) .nil)))
def qa2 : Stms := (.cons (.expr (.meth (.var 17 "disk" ⟨196, 12, 196, 16⟩) "remove" (.cons (.var 6 "name" ⟨196, 24, 196, 28⟩) .nil) ⟨196, 12, 196, 23⟩ ⟨196, 12, 196, 29⟩) ⟨196, 12, 196, 29⟩) (.cons (.par ⟨3, "waiting", ⟨197, 12, 197, 19⟩⟩ ⟨4, "steps", ⟨197, 21, 197, 26⟩⟩ (.new (.cat (.ofE (.var 3 "waiting" ⟨197, 30, 197, 37⟩)) (.disp (.cons (.tup (.cons (.str "remove" 0 ⟨197, 42, 197, 50⟩) (.cons (.var 6 "name" ⟨197, 52, 197, 56⟩) (.cons (.int 0 0 ⟨197, 58, 197, 59⟩) (.cons (.tup .nil 0 ⟨197, 61, 197, 63⟩) .nil)))) 0 ⟨197, 41, 197, 64⟩) .nil) ⟨197, 40, 197, 65⟩) ⟨197, 30, 197, 65⟩)) (.bin .add (.var 4 "steps" ⟨197, 67, 197, 72⟩) (.int 1 0 ⟨197, 75, 197, 76⟩) ⟨197, 67, 197, 76⟩) 0 0 ⟨197, 12, 197, 26⟩ ⟨197, 29, 197, 77⟩ ⟨197, 12, 197, 77⟩) .nil))
def qa3 : Stms := (.cons (.expr (.meth (.var 17 "disk" ⟨199, 12, 199, 16⟩) "sync" (.cons (.var 6 "name" ⟨199, 22, 199, 26⟩) .nil) ⟨199, 12, 199, 21⟩ ⟨199, 12, 199, 27⟩) ⟨199, 12, 199, 27⟩) (.cons (.asg (.tup [⟨2, "files", ⟨200, 12, 200, 17⟩⟩, ⟨4, "steps", ⟨200, 19, 200, 24⟩⟩] 0 ⟨200, 12, 200, 24⟩) (.tup (.cons (.call 5 "_law_seen" (.cons (.var 2 "files" ⟨200, 38, 200, 43⟩) (.cons (.new (.lc b7_6 (.name ⟨19, "deed", ⟨200, 55, 200, 59⟩⟩) (.a (.var 3 "waiting" ⟨200, 63, 200, 70⟩)) (.some (.cmp .eq (.sub (.var 19 "deed" ⟨200, 74, 200, 78⟩) (.int 1 0 ⟨200, 79, 200, 80⟩) ⟨200, 74, 200, 81⟩) (.var 6 "name" ⟨200, 85, 200, 89⟩) ⟨200, 74, 200, 89⟩)) sc5 [(".0", 18), ("deed", 19)] ⟨200, 45, 200, 90⟩)) .nil)) ⟨200, 28, 200, 37⟩ ⟨200, 28, 200, 91⟩) (.cons (.bin .add (.var 4 "steps" ⟨200, 93, 200, 98⟩) (.int 1 0 ⟨200, 101, 200, 102⟩) ⟨200, 93, 200, 102⟩) .nil)) 0 ⟨200, 27, 200, 103⟩) ⟨200, 12, 200, 103⟩) (.cons (.asgL ⟨3, "waiting", ⟨201, 12, 201, 19⟩⟩ (.lc b7_5 (.name ⟨19, "deed", ⟨201, 32, 201, 36⟩⟩) (.a (.var 3 "waiting" ⟨201, 40, 201, 47⟩)) (.some (.cmp .ne (.sub (.var 19 "deed" ⟨201, 51, 201, 55⟩) (.int 1 0 ⟨201, 56, 201, 57⟩) ⟨201, 51, 201, 58⟩) (.var 6 "name" ⟨201, 62, 201, 66⟩) ⟨201, 51, 201, 66⟩)) sc5 [(".0", 18), ("deed", 19)] ⟨201, 22, 201, 67⟩) ⟨201, 12, 201, 67⟩) .nil)))
def qb3 : Stms := (.cons (.asg (.name ⟨13, "picks", ⟨203, 12, 203, 17⟩⟩) (.biL .tup (.lc b7_8 (.name ⟨11, "k", ⟨203, 50, 203, 51⟩⟩) (.r1 (.call 3 "_law_take" (.cons (.var 1 "tape" ⟨203, 71, 203, 75⟩) (.cons (.int 12 0 ⟨203, 77, 203, 79⟩) .nil)) ⟨203, 61, 203, 70⟩ ⟨203, 61, 203, 80⟩) ⟨203, 55, 203, 60⟩ ⟨203, 55, 203, 81⟩) .none sc4 [(".0", 18), ("k", 11)] ⟨203, 26, 203, 82⟩) ⟨203, 20, 203, 25⟩ ⟨203, 20, 203, 83⟩) ⟨203, 12, 203, 83⟩) (.cons (.ifs (.cmp .ne (.meth (.var 17 "disk" ⟨204, 15, 204, 19⟩) "waits" .nil ⟨204, 15, 204, 25⟩ ⟨204, 15, 204, 27⟩) (.biL .sum (.lc b7_7 (.tup [⟨20, "kind", ⟨204, 93, 204, 97⟩⟩, ⟨21, "own", ⟨204, 99, 204, 102⟩⟩, ⟨10, "place", ⟨204, 104, 204, 109⟩⟩, ⟨12, "row", ⟨204, 111, 204, 114⟩⟩] 0 ⟨204, 93, 204, 114⟩) (.a (.var 3 "waiting" ⟨204, 118, 204, 125⟩)) .none sc6 [(".0", 18), ("kind", 20), ("own", 21), ("place", 10), ("row", 12)] ⟨204, 35, 204, 126⟩) ⟨204, 31, 204, 34⟩ ⟨204, 31, 204, 127⟩) ⟨204, 15, 204, 127⟩) (.cons (.ret (.bl false 0 ⟨205, 23, 205, 28⟩) ⟨205, 16, 205, 28⟩) .nil) .nil ⟨204, 12, 205, 28⟩) (.cons (.asg (.tup [⟨2, "files", ⟨206, 12, 206, 17⟩⟩, ⟨3, "waiting", ⟨206, 19, 206, 26⟩⟩] 0 ⟨206, 12, 206, 26⟩) (.tup (.cons (.call 6 "_law_lost" (.cons (.var 2 "files" ⟨206, 40, 206, 45⟩) (.cons (.var 3 "waiting" ⟨206, 47, 206, 54⟩) (.cons (.var 13 "picks" ⟨206, 56, 206, 61⟩) .nil))) ⟨206, 30, 206, 39⟩ ⟨206, 30, 206, 62⟩) (.cons (.new (.disp .nil ⟨206, 64, 206, 66⟩)) .nil)) 0 ⟨206, 29, 206, 67⟩) ⟨206, 12, 206, 67⟩) (.cons (.expr (.meth (.var 17 "disk" ⟨207, 12, 207, 16⟩) "lose" (.cons (.var 13 "picks" ⟨207, 22, 207, 27⟩) .nil) ⟨207, 12, 207, 21⟩ ⟨207, 12, 207, 28⟩) ⟨207, 12, 207, 28⟩) .nil))))
def qi3 : Stm := (.ifs (.cmp .lt (.var 7 "which" ⟨198, 13, 198, 18⟩) (.int 9 0 ⟨198, 21, 198, 22⟩) ⟨198, 13, 198, 22⟩) qa3 qb3 ⟨198, 8, 207, 28⟩)
def qi2 : Stm := (.ifs (.cmp .eq (.var 7 "which" ⟨195, 13, 195, 18⟩) (.int 6 0 ⟨195, 22, 195, 23⟩) ⟨195, 13, 195, 23⟩) qa2 (.cons qi3 .nil) ⟨195, 8, 207, 28⟩)
def qi1 : Stm := (.ifs (.cmp .eq (.var 7 "which" ⟨191, 13, 191, 18⟩) (.int 5 0 ⟨191, 22, 191, 23⟩) ⟨191, 13, 191, 23⟩) qa1 (.cons qi2 .nil) ⟨191, 8, 207, 28⟩)
def qi0 : Stm := (.ifs (.cmp .lt (.var 7 "which" ⟨186, 11, 186, 16⟩) (.int 5 0 ⟨186, 19, 186, 20⟩) ⟨186, 11, 186, 20⟩) qa0 (.cons qi1 .nil) ⟨186, 8, 207, 28⟩)
def c9_0 : Stm := (.asg (.tup [⟨6, "name", ⟨183, 8, 183, 12⟩⟩, ⟨7, "which", ⟨183, 14, 183, 19⟩⟩] 0 ⟨183, 8, 183, 19⟩) (.tup (.cons (.subL (.disp (.cons (.str "a" 0 ⟨183, 24, 183, 27⟩) (.cons (.str "b" 0 ⟨183, 29, 183, 32⟩) (.cons (.str "c" 0 ⟨183, 34, 183, 37⟩) .nil))) ⟨183, 23, 183, 38⟩) (.call 3 "_law_take" (.cons (.var 1 "tape" ⟨183, 49, 183, 53⟩) (.cons (.int 3 0 ⟨183, 55, 183, 56⟩) .nil)) ⟨183, 39, 183, 48⟩ ⟨183, 39, 183, 57⟩) ⟨183, 23, 183, 58⟩) (.cons (.call 3 "_law_take" (.cons (.var 1 "tape" ⟨183, 70, 183, 74⟩) (.cons (.int 10 0 ⟨183, 76, 183, 78⟩) .nil)) ⟨183, 60, 183, 69⟩ ⟨183, 60, 183, 79⟩) .nil)) 0 ⟨183, 22, 183, 80⟩) ⟨183, 8, 183, 80⟩)
def c9_1 : Stm := (.asg (.name ⟨8, "seen", ⟨184, 8, 184, 12⟩⟩) (.call 5 "_law_seen" (.cons (.var 2 "files" ⟨184, 25, 184, 30⟩) (.cons (.var 3 "waiting" ⟨184, 32, 184, 39⟩) .nil)) ⟨184, 15, 184, 24⟩ ⟨184, 15, 184, 40⟩) ⟨184, 8, 184, 40⟩)
def c9_2 : Stm := (.asg (.name ⟨9, "size", ⟨185, 8, 185, 12⟩⟩) (.bi1 .len (.dget (.var 8 "seen" ⟨185, 19, 185, 23⟩) (.var 6 "name" ⟨185, 28, 185, 32⟩) (.tup .nil 0 ⟨185, 34, 185, 36⟩) ⟨185, 19, 185, 27⟩ ⟨185, 19, 185, 37⟩) ⟨185, 15, 185, 18⟩ ⟨185, 15, 185, 38⟩) ⟨185, 8, 185, 38⟩)
def c9_3 : Stm := qi0
def c9_4 : Stm := (.asg (.name ⟨8, "seen", ⟨208, 8, 208, 12⟩⟩) (.call 5 "_law_seen" (.cons (.var 2 "files" ⟨208, 25, 208, 30⟩) (.cons (.var 3 "waiting" ⟨208, 32, 208, 39⟩) .nil)) ⟨208, 15, 208, 24⟩ ⟨208, 15, 208, 40⟩) ⟨208, 8, 208, 40⟩)
def c9_5 : Stm := (.ifs (.or (.cons (.neL (.ofE (.meth (.var 17 "disk" ⟨209, 11, 209, 15⟩) "names" .nil ⟨209, 11, 209, 21⟩ ⟨209, 11, 209, 23⟩)) (.sortS (.var 8 "seen" ⟨209, 34, 209, 38⟩) ⟨209, 27, 209, 33⟩ ⟨209, 27, 209, 39⟩) ⟨209, 11, 209, 39⟩) (.cons (.biL .any (.lc b7_3 (.name ⟨21, "own", ⟨209, 132, 209, 135⟩⟩) (.a (.tup (.cons (.str "a" 0 ⟨209, 140, 209, 143⟩) (.cons (.str "b" 0 ⟨209, 145, 209, 148⟩) (.cons (.str "c" 0 ⟨209, 150, 209, 153⟩) .nil))) 0 ⟨209, 139, 209, 154⟩)) .none sc3 [(".0", 18), ("own", 21)] ⟨209, 47, 209, 155⟩) ⟨209, 43, 209, 46⟩ ⟨209, 43, 209, 156⟩) (.cons (.cmp .ne (.meth (.var 17 "disk" ⟨209, 160, 209, 164⟩) "steps" .nil ⟨209, 160, 209, 170⟩ ⟨209, 160, 209, 172⟩) (.var 4 "steps" ⟨209, 176, 209, 181⟩) ⟨209, 160, 209, 181⟩) .nil))) ⟨209, 11, 209, 181⟩) (.cons (.ret (.bl false 0 ⟨210, 19, 210, 24⟩) ⟨210, 12, 210, 24⟩) .nil) .nil ⟨209, 8, 210, 24⟩)
def c9_6 : Stm := (.asg (.name ⟨14, "other", ⟨211, 8, 211, 13⟩⟩) (.meth (.var 17 "disk" ⟨211, 16, 211, 20⟩) "copy" .nil ⟨211, 16, 211, 25⟩ ⟨211, 16, 211, 27⟩) ⟨211, 8, 211, 27⟩)
def c9_7 : Stm := (.ifs (.or (.cons (.biL .any (.lc b7_2 (.name ⟨21, "own", ⟨212, 58, 212, 61⟩⟩) (.a (.tup (.cons (.str "a" 0 ⟨212, 66, 212, 69⟩) (.cons (.str "b" 0 ⟨212, 71, 212, 74⟩) (.cons (.str "c" 0 ⟨212, 76, 212, 79⟩) .nil))) 0 ⟨212, 65, 212, 80⟩)) .none sc2 [(".0", 18), ("own", 21)] ⟨212, 15, 212, 81⟩) ⟨212, 11, 212, 14⟩ ⟨212, 11, 212, 82⟩) (.cons (.cmp .ne (.meth (.var 14 "other" ⟨212, 86, 212, 91⟩) "waits" .nil ⟨212, 86, 212, 97⟩ ⟨212, 86, 212, 99⟩) (.int 0 0 ⟨212, 103, 212, 104⟩) ⟨212, 86, 212, 104⟩) .nil)) ⟨212, 11, 212, 104⟩) (.cons (.ret (.bl false 0 ⟨213, 19, 213, 24⟩) ⟨213, 12, 213, 24⟩) .nil) .nil ⟨212, 8, 213, 24⟩)
def r9_8 : Stms := .nil
def r9_7 : Stms := .cons c9_7 r9_8
def r9_6 : Stms := .cons c9_6 r9_7
def r9_5 : Stms := .cons c9_5 r9_6
def r9_4 : Stms := .cons c9_4 r9_5
def r9_3 : Stms := .cons c9_3 r9_4
def r9_2 : Stms := .cons c9_2 r9_3
def r9_1 : Stms := .cons c9_1 r9_2
def r9_0 : Stms := .cons c9_0 r9_1
theorem r9_eq : b7_9 = r9_0 := rfl
theorem r9_at0 {P : Par} {ρ : Ro} {H : Hq} : r9_0.ev P ρ H = (c9_0.ev P ρ H).seq (r9_1.ev P) := rfl
theorem r9_at1 {P : Par} {ρ : Ro} {H : Hq} : r9_1.ev P ρ H = (c9_1.ev P ρ H).seq (r9_2.ev P) := rfl
theorem r9_at2 {P : Par} {ρ : Ro} {H : Hq} : r9_2.ev P ρ H = (c9_2.ev P ρ H).seq (r9_3.ev P) := rfl
theorem r9_at3 {P : Par} {ρ : Ro} {H : Hq} : r9_3.ev P ρ H = (c9_3.ev P ρ H).seq (r9_4.ev P) := rfl
theorem r9_at4 {P : Par} {ρ : Ro} {H : Hq} : r9_4.ev P ρ H = (c9_4.ev P ρ H).seq (r9_5.ev P) := rfl
theorem r9_at5 {P : Par} {ρ : Ro} {H : Hq} : r9_5.ev P ρ H = (c9_5.ev P ρ H).seq (r9_6.ev P) := rfl
theorem r9_at6 {P : Par} {ρ : Ro} {H : Hq} : r9_6.ev P ρ H = (c9_6.ev P ρ H).seq (r9_7.ev P) := rfl
theorem r9_at7 {P : Par} {ρ : Ro} {H : Hq} : r9_7.ev P ρ H = (c9_7.ev P ρ H).seq (r9_8.ev P) := rfl
def c7_0 : Stm := (.asg (.name ⟨1, "tape", ⟨180, 4, 180, 8⟩⟩) (.call 2 "_law_tape" (.cons (.var 0 "script" ⟨180, 21, 180, 27⟩) .nil) ⟨180, 11, 180, 20⟩ ⟨180, 11, 180, 28⟩) ⟨180, 4, 180, 28⟩)
def c7_1 : Stm := (.asg (.tup [⟨17, "disk", ⟨181, 4, 181, 8⟩⟩, ⟨2, "files", ⟨181, 10, 181, 15⟩⟩, ⟨3, "waiting", ⟨181, 17, 181, 24⟩⟩, ⟨4, "steps", ⟨181, 26, 181, 31⟩⟩] 0 ⟨181, 4, 181, 31⟩) (.tup (.cons (.make "Disk" .nil ⟨181, 35, 181, 39⟩ ⟨181, 35, 181, 41⟩) (.cons (.dct0 ⟨181, 43, 181, 45⟩) (.cons (.new (.disp .nil ⟨181, 47, 181, 49⟩)) (.cons (.int 0 0 ⟨181, 51, 181, 52⟩) .nil)))) 0 ⟨181, 34, 181, 53⟩) ⟨181, 4, 181, 53⟩)
def c7_2 : Stm := (.forr (.name ⟨5, "turn", ⟨182, 8, 182, 12⟩⟩) (.r1 (.call 3 "_law_take" (.cons (.var 1 "tape" ⟨182, 32, 182, 36⟩) (.cons (.int 30 0 ⟨182, 38, 182, 40⟩) .nil)) ⟨182, 22, 182, 31⟩ ⟨182, 22, 182, 41⟩) ⟨182, 16, 182, 21⟩ ⟨182, 16, 182, 42⟩) b7_9 ⟨182, 4, 213, 24⟩)
def c7_3 : Stm := (.par ⟨15, "fuse", ⟨214, 4, 214, 8⟩⟩ ⟨16, "count", ⟨214, 10, 214, 15⟩⟩ (.call 3 "_law_take" (.cons (.var 1 "tape" ⟨214, 29, 214, 33⟩) (.cons (.int 4 0 ⟨214, 35, 214, 36⟩) .nil)) ⟨214, 19, 214, 28⟩ ⟨214, 19, 214, 37⟩) (.int 0 0 ⟨214, 39, 214, 40⟩) 0 0 ⟨214, 4, 214, 15⟩ ⟨214, 18, 214, 41⟩ ⟨214, 4, 214, 41⟩)
def c7_4 : Stm := (.expr (.meth (.var 17 "disk" ⟨215, 4, 215, 8⟩) "set_fuse" (.cons (.var 15 "fuse" ⟨215, 18, 215, 22⟩) .nil) ⟨215, 4, 215, 17⟩ ⟨215, 4, 215, 23⟩) ⟨215, 4, 215, 23⟩)
def c7_5 : Stm := (.tri b7_1 0 "PowerLost" .ne 16 "count" ⟨221, 11, 221, 16⟩ 15 "fuse" ⟨221, 20, 221, 24⟩ ⟨221, 11, 221, 24⟩ false 0 ⟨222, 19, 222, 24⟩ ⟨222, 12, 222, 24⟩ ⟨221, 8, 222, 24⟩ ⟨220, 11, 220, 20⟩ ⟨220, 4, 222, 24⟩ ⟨216, 4, 222, 24⟩)
def c7_6 : Stm := (.ifs (.or (.cons (.cmp .ne (.var 16 "count" ⟨223, 7, 223, 12⟩) (.var 15 "fuse" ⟨223, 16, 223, 20⟩) ⟨223, 7, 223, 20⟩) (.cons (.cmp .ne (.meth (.var 17 "disk" ⟨223, 24, 223, 28⟩) "steps" .nil ⟨223, 24, 223, 34⟩ ⟨223, 24, 223, 36⟩) (.bin .add (.var 4 "steps" ⟨223, 40, 223, 45⟩) (.var 15 "fuse" ⟨223, 48, 223, 52⟩) ⟨223, 40, 223, 52⟩) ⟨223, 24, 223, 52⟩) (.cons (.not (.refd 0 "_law_refused" (.meth (.var 17 "disk" ⟨223, 82, 223, 86⟩) "sync" (.cons (.str "z" 0 ⟨223, 92, 223, 95⟩) .nil) ⟨223, 82, 223, 91⟩ ⟨223, 82, 223, 96⟩) sc1 ⟨223, 61, 223, 73⟩ ⟨223, 74, 223, 96⟩ ⟨223, 61, 223, 97⟩) ⟨223, 57, 223, 97⟩) .nil))) ⟨223, 7, 223, 98⟩) (.cons (.ret (.bl false 0 ⟨224, 15, 224, 20⟩) ⟨224, 8, 224, 20⟩) .nil) .nil ⟨223, 4, 224, 20⟩)
def c7_7 : Stm := (.expr (.meth (.var 17 "disk" ⟨225, 4, 225, 8⟩) "lose" (.cons (.tup .nil 0 ⟨225, 14, 225, 16⟩) .nil) ⟨225, 4, 225, 13⟩ ⟨225, 4, 225, 17⟩) ⟨225, 4, 225, 17⟩)
def c7_8 : Stm := (.expr (.meth (.var 17 "disk" ⟨226, 4, 226, 8⟩) "sync" (.cons (.str "z" 0 ⟨226, 14, 226, 17⟩) .nil) ⟨226, 4, 226, 13⟩ ⟨226, 4, 226, 18⟩) ⟨226, 4, 226, 18⟩)
def c7_9 : Stm := (.ifs (.not (.refd 0 "_law_refused" (.meth (.var 17 "disk" ⟨227, 32, 227, 36⟩) "write" (.cons (.str "a" 0 ⟨227, 43, 227, 46⟩) (.cons (.bin .add (.meth (.var 17 "disk" ⟨227, 48, 227, 52⟩) "size" (.cons (.str "a" 0 ⟨227, 58, 227, 61⟩) .nil) ⟨227, 48, 227, 57⟩ ⟨227, 48, 227, 62⟩) (.int 1 0 ⟨227, 65, 227, 66⟩) ⟨227, 48, 227, 66⟩) (.cons (.tup (.cons (.int 1 0 ⟨227, 69, 227, 70⟩) .nil) 0 ⟨227, 68, 227, 72⟩) .nil))) ⟨227, 32, 227, 42⟩ ⟨227, 32, 227, 73⟩) sc1 ⟨227, 11, 227, 23⟩ ⟨227, 24, 227, 73⟩ ⟨227, 11, 227, 74⟩) ⟨227, 7, 227, 74⟩) (.cons (.ret (.bl false 0 ⟨228, 15, 228, 20⟩) ⟨228, 8, 228, 20⟩) .nil) .nil ⟨227, 4, 228, 20⟩)
def c7_10 : Stm := (.ifs (.not (.refd 0 "_law_refused" (.meth (.var 17 "disk" ⟨229, 32, 229, 36⟩) "cut" (.cons (.str "a" 0 ⟨229, 41, 229, 44⟩) (.cons (.bin .add (.meth (.var 17 "disk" ⟨229, 46, 229, 50⟩) "size" (.cons (.str "a" 0 ⟨229, 56, 229, 59⟩) .nil) ⟨229, 46, 229, 55⟩ ⟨229, 46, 229, 60⟩) (.int 1 0 ⟨229, 63, 229, 64⟩) ⟨229, 46, 229, 64⟩) .nil)) ⟨229, 32, 229, 40⟩ ⟨229, 32, 229, 65⟩) sc1 ⟨229, 11, 229, 23⟩ ⟨229, 24, 229, 65⟩ ⟨229, 11, 229, 66⟩) ⟨229, 7, 229, 66⟩) (.cons (.ret (.bl false 0 ⟨230, 15, 230, 20⟩) ⟨230, 8, 230, 20⟩) .nil) .nil ⟨229, 4, 230, 20⟩)
def c7_11 : Stm := (.ret (.and (.cons (.refd 0 "_law_refused" (.meth (.var 17 "disk" ⟨231, 32, 231, 36⟩) "write" (.cons (.str "a" 0 ⟨231, 43, 231, 46⟩) (.cons (.int 0 0 ⟨231, 48, 231, 49⟩) (.cons (.tup (.cons (.int 256 0 ⟨231, 52, 231, 55⟩) .nil) 0 ⟨231, 51, 231, 57⟩) .nil))) ⟨231, 32, 231, 42⟩ ⟨231, 32, 231, 58⟩) sc1 ⟨231, 11, 231, 23⟩ ⟨231, 24, 231, 58⟩ ⟨231, 11, 231, 59⟩) (.cons (.cmp .eq (.meth (.var 17 "disk" ⟨231, 64, 231, 68⟩) "read" (.cons (.str "z" 0 ⟨231, 74, 231, 77⟩) .nil) ⟨231, 64, 231, 73⟩ ⟨231, 64, 231, 78⟩) (.tup .nil 0 ⟨231, 82, 231, 84⟩) ⟨231, 64, 231, 84⟩) .nil)) ⟨231, 11, 231, 84⟩) ⟨231, 4, 231, 84⟩)
def r7_12 : Stms := .nil
def r7_11 : Stms := .cons c7_11 r7_12
def r7_10 : Stms := .cons c7_10 r7_11
def r7_9 : Stms := .cons c7_9 r7_10
def r7_8 : Stms := .cons c7_8 r7_9
def r7_7 : Stms := .cons c7_7 r7_8
def r7_6 : Stms := .cons c7_6 r7_7
def r7_5 : Stms := .cons c7_5 r7_6
def r7_4 : Stms := .cons c7_4 r7_5
def r7_3 : Stms := .cons c7_3 r7_4
def r7_2 : Stms := .cons c7_2 r7_3
def r7_1 : Stms := .cons c7_1 r7_2
def r7_0 : Stms := .cons c7_0 r7_1
theorem r7_eq : b7 = r7_0 := rfl
theorem r7_at0 {P : Par} {ρ : Ro} {H : Hq} : r7_0.ev P ρ H = (c7_0.ev P ρ H).seq (r7_1.ev P) := rfl
theorem r7_at1 {P : Par} {ρ : Ro} {H : Hq} : r7_1.ev P ρ H = (c7_1.ev P ρ H).seq (r7_2.ev P) := rfl
theorem r7_at2 {P : Par} {ρ : Ro} {H : Hq} : r7_2.ev P ρ H = (c7_2.ev P ρ H).seq (r7_3.ev P) := rfl
theorem r7_at3 {P : Par} {ρ : Ro} {H : Hq} : r7_3.ev P ρ H = (c7_3.ev P ρ H).seq (r7_4.ev P) := rfl
theorem r7_at4 {P : Par} {ρ : Ro} {H : Hq} : r7_4.ev P ρ H = (c7_4.ev P ρ H).seq (r7_5.ev P) := rfl
theorem r7_at5 {P : Par} {ρ : Ro} {H : Hq} : r7_5.ev P ρ H = (c7_5.ev P ρ H).seq (r7_6.ev P) := rfl
theorem r7_at6 {P : Par} {ρ : Ro} {H : Hq} : r7_6.ev P ρ H = (c7_6.ev P ρ H).seq (r7_7.ev P) := rfl
theorem r7_at7 {P : Par} {ρ : Ro} {H : Hq} : r7_7.ev P ρ H = (c7_7.ev P ρ H).seq (r7_8.ev P) := rfl
theorem r7_at8 {P : Par} {ρ : Ro} {H : Hq} : r7_8.ev P ρ H = (c7_8.ev P ρ H).seq (r7_9.ev P) := rfl
theorem r7_at9 {P : Par} {ρ : Ro} {H : Hq} : r7_9.ev P ρ H = (c7_9.ev P ρ H).seq (r7_10.ev P) := rfl
theorem r7_at10 {P : Par} {ρ : Ro} {H : Hq} : r7_10.ev P ρ H = (c7_10.ev P ρ H).seq (r7_11.ev P) := rfl
theorem r7_at11 {P : Par} {ρ : Ro} {H : Hq} : r7_11.ev P ρ H = (c7_11.ev P ρ H).seq (r7_12.ev P) := rfl
end K02
end
section
set_option Elab.async false
set_option linter.all false
set_option maxRecDepth 100000
set_option maxHeartbeats 1000000
/-! k02: the plain law; what stands between the turns. -/
namespace K02
open PySem Lt
theorem look_all : ∀ (ds : List Dd) (fl : Fl) (m : Str), (ds.foldl done fl).lookup m = (own m ds).foldl dn1 (fl.lookup m)
  | [], fl, m => rfl
  | d :: ds, fl, m => by
    rw [List.foldl_cons, look_all ds, look_done]
    unfold own
    by_cases h : d.n = m
    · rw [if_pos h.symm, List.filter_cons_of_pos (by simpa using h), List.foldl_cons, h]
    · rw [if_neg (fun e => h e.symm), List.filter_cons_of_neg (by simpa using h)]
theorem own_own (n : Str) (w : List Dd) : own n (own n w) = own n w := by
  unfold own
  rw [List.filter_filter]
  simp
theorem own_oth (n : Str) (w : List Dd) : own n (oth n w) = [] := by
  unfold own oth
  rw [List.filter_filter, List.filter_eq_nil_iff]
  intro d _
  simp
theorem own_own_ne {m n : Str} (h : m ≠ n) (w : List Dd) : own m (own n w) = [] := by
  unfold own
  rw [List.filter_filter, List.filter_eq_nil_iff]
  intro d _
  simp
  intro e1 e2
  exact h (e1.symm.trans e2)
theorem own_oth_ne {m n : Str} (h : m ≠ n) (w : List Dd) : own m (oth n w) = own m w := by
  unfold own oth
  rw [List.filter_filter]
  refine List.filter_congr fun d _ => ?_
  by_cases e : d.n = m
  · have : ¬ d.n = n := fun e2 => h (e.symm.trans e2)
    simp [e, h]
  · simp [e]
theorem look_sync (n m : Str) (w : List Dd) (fl : Fl) : ((oth n w).foldl done ((own n w).foldl done fl)).lookup m = (w.foldl done fl).lookup m := by
  rw [look_all, look_all, look_all]
  by_cases h : m = n
  · rw [h, own_own, own_oth]
    rfl
  · rw [own_own_ne h, own_oth_ne h]
    rfl
theorem len_split (n : Str) : ∀ w : List Dd, (own n w).length + (oth n w).length = w.length
  | [] => rfl
  | d :: w => by
    have := len_split n w
    unfold own oth at *
    by_cases e : d.n = n
    · rw [List.filter_cons_of_pos (by simpa using e), List.filter_cons_of_neg (by simpa using e), List.length_cons, List.length_cons]
      omega
    · rw [List.filter_cons_of_neg (by simpa using e), List.filter_cons_of_pos (by simpa using e), List.length_cons, List.length_cons]
      omega
theorem done_look {a b : Fl} (h : ∀ n, a.lookup n = b.lookup n) (d : Dd) : ∀ n, (done a d).lookup n = (done b d).lookup n := fun n => by
  rw [look_done, look_done, h, h]
theorem mem_keys : ∀ (fl : Fl) (n : Str), n ∈ keysL fl ↔ (fl.lookup n).isSome = true
  | [], n => by simp [keysL]
  | (x, y) :: fl, n => by
    have := mem_keys fl n
    unfold keysL at *
    rw [List.map_cons, List.mem_cons, List.lookup_cons, this]
    by_cases e : n = x
    · simp [e]
    · have : (n == x) = false := by simpa using e
      simp [this, e]
theorem fe_keys (fl : Fl) : (fe fl).map (·.1) = keysL fl := by
  unfold fe keysL
  rw [List.map_map]
  rfl
theorem keys_same {a b : Fl} (ha : (keysL a).Nodup) (hb : (keysL b).Nodup) (h : ∀ n, a.lookup n = b.lookup n) : keysOf (fe a) = keysOf (fe b) := by
  have hp : (keysL a).Perm (keysL b) := (List.perm_ext_iff_of_nodup ha hb).mpr fun n => by rw [mem_keys, mem_keys, h]
  unfold keysOf
  rw [fe_keys, fe_keys]
  exact List.Perm.eq_of_pairwise (le := fun a b => leS a b = true) (fun a b _ _ h1 h2 => leS_anti a b h1 h2) (List.pairwise_mergeSort (le := leS) leS_trans leS_total _) (List.pairwise_mergeSort (le := leS) leS_trans leS_total _) (((List.mergeSort_perm _ _).trans hp).trans (List.mergeSort_perm _ _).symm)
theorem getF_same {a b : Fl} (h : ∀ n, a.lookup n = b.lookup n) (n : Str) : getF a n = getF b n := by
  unfold getF
  rw [h]
def names3 : List Str := ["a", "b", "c"]
theorem n34 {n : Str} (h : n ∈ names3) : n ∈ names4 := by
  unfold names3 names4 at *
  simp only [List.mem_cons, List.not_mem_nil, or_false] at *
  rcases h with h | h | h <;> simp [h]
theorem nz3 {n : Str} (h : n ∈ names3) : n ≠ "z" := by
  unfold names3 at h
  simp only [List.mem_cons, List.not_mem_nil, or_false] at h
  rcases h with h | h | h <;> rw [h] <;> decide +kernel
theorem own_z {w : List Dd} (h : ∀ d ∈ w, d.n ∈ names3) : own "z" w = [] := by
  unfold own
  rw [List.filter_eq_nil_iff]
  intro d hd
  have := nz3 (h d hd)
  simpa using this
theorem lsF_z {ps : List Nat} {d : Dd} (hn : d.n ≠ "z") : ∀ (xs : List (Nat × List Nat)) (a : Fl × Nat), (xs.foldl (ls1 ps d) a).1.lookup ("z" : Str) = a.1.lookup ("z" : Str)
  | [], a => rfl
  | x :: xs, a => by
    rw [List.foldl_cons, lsF_z hn xs]
    unfold ls1
    dsimp only
    split
    · rw [look_done, if_neg (fun e => hn e.symm)]
    · rfl
theorem lost_z {ps : List Nat} : ∀ (w : List Dd) (a : Fl × Nat), (∀ d ∈ w, d.n ∈ names3) → (w.foldl (lsD ps) a).1.lookup ("z" : Str) = a.1.lookup ("z" : Str)
  | [], a, _ => rfl
  | d :: w, a, h => by
    rw [List.foldl_cons, lost_z w _ fun x hx => h x (List.mem_cons_of_mem _ hx)]
    exact lsF_z (nz3 (h d List.mem_cons_self)) _ _
/-! ### the tape beside the files -/
theorem tape_ne {H : Hq} {t c i : Nat} {fl : Fl} (h : IsT t c H) (hi : H[i]? = some (.dct (fe fl))) : i ≠ t := by
  obtain ⟨cs, j, l, s, z, _, _, _, _, h⟩ := h
  intro e
  rw [e, h] at hi
  cases fl with
  | nil => cases hi
  | cons a fl =>
    injection hi with hi
    injection hi with hi
    unfold fe at hi
    rw [List.map_cons] at hi
    injection hi with h1 h2
    have h3 := congrArg Prod.snd h1
    cases h3
theorem tape_ne_l {H : Hq} {t c i : Nat} {xs : List E} (h : IsT t c H) (hi : H[i]? = some (.lst xs)) : i ≠ t := by
  obtain ⟨cs, j, l, s, z, _, _, _, _, h⟩ := h
  intro e
  rw [e, h] at hi
  cases hi
theorem tape_ne_i {H : Hq} {t c i : Nat} {x : Str} {fs : List (Str × E)} (h : IsT t c H) (hi : H[i]? = some (.ins x fs)) : i ≠ t ∧ i ≠ c := by
  obtain ⟨cs, j, l, s, z, _, hc, _, _, h⟩ := h
  refine ⟨fun e => ?_, fun e => ?_⟩
  · rw [e, h] at hi; cases hi
  · rw [e, hc] at hi; cases hi
theorem IsT.app {H J : Hq} {t c : Nat} (h : IsT t c H) : IsT t c (H ++ J) := by
  obtain ⟨cs, j, l, s, z, h1, h2, h3, h4, h5⟩ := h
  exact ⟨cs, j, l, s, z, h1, get_app h2, h3, h4, get_app h5⟩
theorem IsT.keep {H H' : Hq} {t c : Nat} (h : IsT t c H) (h1 : H'[t]? = H[t]?) (h2 : H'[c]? = H[c]?) : IsT t c H' := by
  obtain ⟨cs, j, l, s, z, q1, q2, q3, q4, q5⟩ := h
  exact ⟨cs, j, l, s, z, q1, h2.trans q2, q3, q4, h1.trans q5⟩
theorem IsT.lt {H : Hq} {t c : Nat} (h : IsT t c H) : t < H.length ∧ c < H.length := by
  obtain ⟨cs, j, l, s, z, q1, q2, q3, q4, q5⟩ := h
  exact ⟨(List.getElem?_eq_some_iff.mp q5).1, (List.getElem?_eq_some_iff.mp q2).1⟩
/-- the disk, told of its files only -/
structure DA (H : Hq) (D : Nat) (kept now : Fl) (w : List Dd) (s : Int) (wd : Nat) : Prop where
  ex : ∃ kd nd, DiskAt H D kd nd wd kept now w .non s
theorem DA.app {H J : Hq} {D wd : Nat} {kept now : Fl} {w : List Dd} {s : Int} (h : DA H D kept now w s wd) : DA (H ++ J) D kept now w s wd := by
  obtain ⟨kd, nd, h⟩ := h.ex
  exact ⟨kd, nd, h.app⟩
theorem DA.take {H : Hq} {D wd : Nat} {kept now : Fl} {w : List Dd} {s : Int} {v : Ob} (h : DA H D kept now w s wd) (hT : IsT 2 1 H) : DA (H.set 2 v) D kept now w s wd := by
  obtain ⟨kd, nd, h⟩ := h.ex
  exact ⟨kd, nd, by rw [set_ne (tape_ne_i hT h.at_).1]; exact h.at_, by rw [set_ne (tape_ne hT h.kept)]; exact h.kept, by rw [set_ne (tape_ne hT h.now)]; exact h.now, by rw [set_ne (tape_ne_l hT h.wait)]; exact h.wait⟩
/-- the parts that stand in the heap -/
structure Hp (H : Hq) (D fd wr wd : Nat) (s : Int) (kept now : Fl) (w : List Dd) : Prop where
  tape : IsT 2 1 H
  disk : DA H D kept now w s wd
  fil : H[fd]? = some (.dct (fe kept))
  wai : H[wr]? = some (.lst (w.map Dd.e))
  ne1 : wd ≠ 1
  new : wd ≠ wr
theorem Hp.app {H J : Hq} {D fd wr wd : Nat} {s : Int} {kept now : Fl} {w : List Dd} (h : Hp H D fd wr wd s kept now w) : Hp (H ++ J) D fd wr wd s kept now w := ⟨h.tape.app, h.disk.app, get_app h.fil, get_app h.wai, h.ne1, h.new⟩
theorem Hp.take {H : Hq} {D fd wr wd : Nat} {s : Int} {kept now : Fl} {w : List Dd} {v : Ob} (h : Hp H D fd wr wd s kept now w) (hT : IsT 2 1 (H.set 2 v)) : Hp (H.set 2 v) D fd wr wd s kept now w :=
  ⟨hT, h.disk.take h.tape, by rw [set_ne (tape_ne h.tape h.fil)]; exact h.fil, by rw [set_ne (tape_ne_l h.tape h.wai)]; exact h.wai, h.ne1, h.new⟩
/-- the plain parts -/
structure Pl (kept now : Fl) (w : List Dd) (t : Nat) : Prop where
  gk : ∃ a, Gd kept (50 * a) ∧ a + w.length ≤ t
  gn : Gd now (50 * t)
  eq : ∀ n, now.lookup n = (w.foldl done kept).lookup n
  own : ∀ d ∈ w, d.n ∈ names3 ∧ d.r.length ≤ 50
  z : kept.lookup ("z" : Str) = none
theorem Pl.own4 {kept now : Fl} {w : List Dd} {t : Nat} (h : Pl kept now w t) : ∀ d ∈ w, d.n ∈ names4 ∧ d.r.length ≤ 50 := fun d hd => ⟨n34 (h.own d hd).1, (h.own d hd).2⟩
theorem Pl.nil : Pl [] [] [] 0 := ⟨⟨0, Gd.nil, by simp⟩, Gd.nil, fun _ => rfl, fun d h => (by cases h), rfl⟩
theorem Pl.more {kept now : Fl} {w : List Dd} {t : Nat} {d : Dd} (h : Pl kept now w t) (hn : d.n ∈ names3) (hr : d.r.length ≤ 50) : Pl kept (done now d) (w ++ [d]) (t + 1) := by
  obtain ⟨a, h1, h2⟩ := h.gk
  refine ⟨⟨a, h1, by rw [List.length_append]; simp; omega⟩, by rw [Nat.mul_succ]; exact h.gn.done (n34 hn) hr, fun n => ?_, fun x hx => ?_, h.z⟩
  · rw [List.foldl_append]
    exact done_look h.eq d n
  · rcases List.mem_append.mp hx with hx | hx
    · exact h.own x hx
    · rw [List.mem_singleton] at hx
      rw [hx]
      exact ⟨hn, hr⟩
theorem Pl.sync {kept now : Fl} {w : List Dd} {t : Nat} (n : Str) (h : Pl kept now w t) : Pl ((K02.own n w).foldl done kept) now (oth n w) (t + 1) := by
  obtain ⟨a, h1, h2⟩ := h.gk
  have hs := len_split n w
  refine ⟨⟨a + (K02.own n w).length, ?_, by omega⟩, h.gn.mono (by omega), fun m => ?_, fun x hx => h.own x (List.mem_filter.mp hx).1, ?_⟩
  · rw [Nat.mul_add]
    exact h1.all fun d hd => h.own4 d (List.mem_filter.mp hd).1
  · rw [look_sync]
    exact h.eq m
  · rw [look_all, own_z (w := K02.own n w) fun d hd => (h.own d (List.mem_filter.mp hd).1).1]
    exact h.z
theorem Pl.lose {kept now : Fl} {w : List Dd} {t : Nat} (ps : List Nat) (h : Pl kept now w t) : Pl (lost ps w kept) (lost ps w kept) [] (t + 1) := by
  obtain ⟨a, h1, h2⟩ := h.gk
  have g : Gd (lost ps w kept) (50 * (a + w.length)) := by
    rw [Nat.mul_add]
    exact Gd.lsA w (kept, 0) (50 * a) h1 h.own4
  refine ⟨⟨a + w.length, g, by simp; omega⟩, g.mono (by omega), fun m => rfl, fun d h => (by cases h), ?_⟩
  show (w.foldl (lsD ps) (kept, 0)).1.lookup ("z" : Str) = none
  rw [lost_z w _ fun d hd => (h.own d hd).1]
  exact h.z
theorem Pl.seen {kept now : Fl} {w : List Dd} {t : Nat} (h : Pl kept now w t) : Gd (w.foldl done kept) (50 * t) := by
  obtain ⟨a, h1, h2⟩ := h.gk
  exact (h1.all h.own4).mono (by omega)
theorem Pl.few {kept now : Fl} {w : List Dd} {t : Nat} (h : Pl kept now w t) : w.length ≤ t := by
  obtain ⟨a, h1, h2⟩ := h.gk
  omega
theorem Pl.gk' {kept now : Fl} {w : List Dd} {t : Nat} (h : Pl kept now w t) : Gd kept (50 * t) := by
  obtain ⟨a, h1, h2⟩ := h.gk
  exact h1.mono (by omega)
end K02
end
section
set_option Elab.async false
set_option linter.all false
set_option maxRecDepth 100000
set_option maxHeartbeats 1000000
/-! k02: a turn's deeds. -/
namespace K02
open PySem Lt
theorem Hp.fr {H H' : Hq} {D fd wr wd : Nat} {s : Int} {kept now : Fl} {w : List Dd} (h : Hp H D fd wr wd s kept now w) (hF : Fr D wd H H') : IsT 2 1 H' ∧ H'[fd]? = some (.dct (fe kept)) ∧ H'[wr]? = some (.lst (w.map Dd.e)) := by
  obtain ⟨kd, nd, hd⟩ := h.disk.ex
  have hT := h.tape.lt
  have n1 := tape_ne_i h.tape hd.at_
  have n2 := tape_ne_l h.tape hd.wait
  exact ⟨h.tape.keep (hF.2 2 hT.1 n1.1.symm n2.symm) (hF.2 1 hT.2 n1.2.symm h.ne1.symm), hF.at h.fil (dct_ne hd.at_ h.fil) (ld_ne h.fil hd.wait), hF.at h.wai (lst_ne hd.at_ h.wai) h.new.symm⟩
theorem Hp.lt {H : Hq} {D fd wr wd : Nat} {s : Int} {kept now : Fl} {w : List Dd} (h : Hp H D fd wr wd s kept now w) : wd < H.length ∧ wr < H.length ∧ 1 < H.length := by
  obtain ⟨kd, nd, hd⟩ := h.disk.ex
  exact ⟨(List.getElem?_eq_some_iff.mp hd.wait).1, (List.getElem?_eq_some_iff.mp h.wai).1, h.tape.lt.2⟩
theorem Hp.tk {H : Hq} {D fd wr wd m : Nat} {s : Int} {kept now : Fl} {w : List Dd} (h : Hp H D fd wr wd s kept now w) (hm : 0 < m) (hm2 : m < 1073741824) : ∃ d H1, (Pn 12).cl 3 [.ref 2, .int (m : Int)] H = .ok (.int ((d : Nat) : Int)) H1 ∧ Hp H1 D fd wr wd s kept now w ∧ d < m := by
  obtain ⟨d, v, h1, h2, h3⟩ := law_take_ok (k := 11) h.tape hm hm2
  exact ⟨d, _, h1, h.take h2, h3⟩
def Aft (t D : Nat) (s0 s5 s6 s7 s8 s9 s11 s14 s15 s16 s18 s19 s20 s21 : Option E) (r : RS) : Prop := ∃ H' fd wr wd s kept now w s10 s12 s13, r = .nx [s0, some (.ref 2), some (.ref fd), some (.ref wr), some (.int s), s5, s6, s7, s8, s9, s10, s11, s12, s13, s14, s15, s16, some (.ref D), s18, s19, s20, s21] H' ∧ Hp H' D fd wr wd s kept now w ∧ Pl kept now w t
theorem getM_at {H : Hq} {n : Nat} {xs : List E} (h : H[n]? = some (.lst xs)) : LH.getM H (.pl n) = some xs := by
  show (match H[n]? with | some (.lst xs) => some xs | _ => none) = _
  rw [h]
section
variable {H : Hq} {D fd wr wd t : Nat} {s : Int} {kept now : Fl} {w : List Dd} {n : Str}
variable {s0 s1 s2 s3 s4 s5 s6 s7 s8 s9 s10 s11 s12 s13 s14 s15 s16 s17 s18 s19 s20 s21 : Option E}
theorem row_take (h : Hp H D fd wr wd s kept now w) : ∀ d : Nat, d ≤ 100 → ∃ xs H1, lcS none (rng 0 d) (.name ⟨11, "k", ⟨188, 50, 188, 51⟩⟩) sYes (b7_4.ev (Pn 12)) [s0, some (.ref 2), s2, s3, s4, s5, s6, s7, s8, s9, s10, none, s12, s13, s14, s15, s16, s17, none, s19, s20, s21] (rng 0 d) [] H = .ok (nats xs) H1 ∧ Hp H1 D fd wr wd s kept now w ∧ xs.length = d ∧ ∀ x ∈ xs, x < 256 := by
  intro d hd
  obtain ⟨xs, v, h1, h2, h3, h4⟩ := lc_tape (all := rng 0 d) (n := ⟨11, "k", ⟨188, 50, 188, 51⟩⟩) (ρ := [s0, some (.ref 2), s2, s3, s4, s5, s6, s7, s8, s9, s10, none, s12, s13, s14, s15, s16, s17, none, s19, s20, s21]) (g := fun a : Nat => E.int (a : Int)) (Q := fun a => a < 256) (e := b7_4.ev (Pn 12)) (fun y G hG => by
    obtain ⟨x, v, q1, q2, q3⟩ := law_take_ok (k := 11) hG (m := 256) (by omega) (by omega)
    have q1 : (Pn 12).cl 3 [.ref 2, .int 256] G = _ := q1
    refine ⟨x, v, ?_, q2, q3⟩
    show b7_4.ev (Pn 12) [s0, some (.ref 2), s2, s3, s4, s5, s6, s7, s8, s9, s10, some (y), s12, s13, s14, s15, s16, s17, none, s19, s20, s21] G = _
    simp -implicitDefEqProofs only [Stms.ev, Stm.ev, Ex.ev, Ex.evT, Exs.ev, Exs.evAnd, Exs.evOr, Exs.evTAnd, Exs.evTOr, Ox.ev, Ox.evT, Lx.ev, It.ev, v_c, v_bin, v_cmp, v_bl, v_isN, v_ntN, v_not, v_tru, v_asB, v_and, v_or, v_if, v_tup, v_nil, v_cons, v_sub, v_onone, v_osome, v_slice, v_call, v_glb, v_ofE, v_disp, v_cat, v_bi1, v_biL, v_isi, v_inS, v_sidx, v_join, v_subL, v_new, v_dct, v_lenSet, v_attr, v_meth, v_nox, v_dct0, v_dcp, v_dget, v_dpop, v_chain, v_tupE, v_min2, v_listT, v_sortS, v_neL, strE, refE, q_v_setI, q_v_setA, q_v_augA, q_v_parA, v_yes, v_itL, v_itA, v_itR1, v_itR2, v_lc, q_v_asg, q_v_par, q_v_setD, q_v_expr, q_v_app, q_v_if, q_v_for, q_v_ret, o_add, o_sub, c_lt, c_le, c_gt, c_ge, a_add, R.bind_ok, R.bind_ex, R.bind_bad, R.st_ok, R.st_ex, R.st_bad, RS.seq_nx, RS.seq_rt, RS.seq_ex, RS.seq_bk, RS.seq_ct, RS.seq_bad, optR_some, optR_none, Tg.set, setAll, asB, Lt.truthy, isNon, biLE, getL_tmp, getM_tmp, Option.isSome_some, reduceIte, if_true, if_false, Bool.false_eq_true, Option.map_some, w0, w1, w2, w3, w4, w5, w6, w7, w8, w9, w10, w11, w12, w13, w14, w15, w16, w17, w18, w19, w20, w21, w22, w23, w24, x0, x1, x2, x3, x4, x5, x6, x7, x8, x9, x10, x11, x12, x13, x14, x15, x16, x17, x18, x19, x20, x21, x22, x23, x24, z0, z1, z2, z3, z4, z5, z6, z7, z8, z9, z10, z11, z12, z13, z14, z15, z16, z17, z18, z19, z20, z21, z22, z23, z24, y0, y1, y2, y3, y4, y5, y6, y7, y8, y9, y10, y11, y12, y13, y14, y15, y16, y17, y18, y19, y20, y21, y22, y23, y24, b7_4, q1]) (rng 0 d) [] H h.tape (by simp [rng]; omega)
  rw [List.nil_append] at h1
  refine ⟨xs, _, h1, h.take h2, ?_, h4⟩
  rw [h3]
  simp [rng]
theorem blk_write (h : Hp H D fd wr wd s kept now w) (hP : Pl kept now w t) (ht : t ≤ 40) (hn : n ∈ names3) :
    Aft (t + 1) D s0 s5 (some (.str n)) s7 s8 (some (.int ((getF now n).length : Int))) s11 s14 s15 s16 s18 s19 s20 s21 (qa0.ev (Pn 12) [s0, some (.ref 2), some (.ref fd), some (.ref wr), some (.int s), s5, some (.str n), s7, s8, some (.int ((getF now n).length : Int)), s10, s11, s12, s13, s14, s15, s16, some (.ref D), s18, s19, s20, s21] H) := by
  have hlen := hP.gn.len n
  have hfew := hP.few
  obtain ⟨p, H1, e1, h1, hp⟩ := h.tk (m := (getF now n).length + 1) (by omega) (by omega)
  have e1 : (Pn 12).cl 3 [.ref 2, .int ((getF now n).length + 1 : Int)] H = _ := e1
  obtain ⟨c, H2, e2, h2, hc⟩ := h1.tk (m := 40) (by omega) (by omega)
  have e2 : (Pn 12).cl 3 [.ref 2, .int 40] H1 = _ := e2
  obtain ⟨r, H3, e3, h3, hr1, hr2⟩ := row_take (s0 := s0) (s2 := some (.ref fd)) (s3 := some (.ref wr)) (s4 := some (.int s)) (s5 := s5) (s6 := some (.str n)) (s7 := s7) (s8 := s8) (s9 := some (.int ((getF now n).length : Int))) (s10 := some (.int (p : Int))) (s12 := s12) (s13 := s13) (s14 := s14) (s15 := s15) (s16 := s16) (s17 := some (.ref D)) (s19 := s19) (s20 := s20) (s21 := s21) h2 c (by omega)
  obtain ⟨kd, nd, hd⟩ := h3.disk.ex
  have hM : 50 * t + r.length ≤ 100000 := by omega
  obtain ⟨H4, e4, hd4, hF⟩ := write_ok (k := 9) (n := n) (p := p) (r := r) hd (.inl rfl) (by omega) (fun a ha => by have := hr2 a ha; omega) (by omega) (hP.gn.fit hM) (hP.gn.h40 (d := ⟨.wr, n, p, r⟩) (n34 hn)) (by omega)
  have e4 : (Pn 12).cl 16 [.ref D, .str n, .int (p : Int), .tup (nats r)] H3 = .ok .non H4 := e4
  have m1 := me_write (k := 12) hd.at_
  obtain ⟨q1, q2, q3⟩ := h3.fr hF
  have hin : in62 (c : Int) = true := in62_nat (by omega)
  have gl := getL_at q3
  have gm := getM_at q3
  have lt : ((w.map Dd.e).length + [E.tup [.str "write", .str n, .int (p : Int), .tup (nats r)]].length ≤ sizeLine) = True := eq_true (le_line (by simp; omega))
  have e : qa0.ev (Pn 12) [s0, some (.ref 2), some (.ref fd), some (.ref wr), some (.int s), s5, some (.str n), s7, s8, some (.int ((getF now n).length : Int)), s10, s11, s12, s13, s14, s15, s16, some (.ref D), s18, s19, s20, s21] H = .nx [s0, some (.ref 2), some (.ref fd), some (.ref H4.length), some (.int (s + 1)), s5, some (.str n), s7, s8, some (.int ((getF now n).length : Int)), some (.int (p : Int)), s11, some (.tup (nats r)), s13, s14, s15, s16, some (.ref D), s18, s19, s20, s21] (H4 ++ [.lst (w.map Dd.e ++ [E.tup [.str "write", .str n, .int (p : Int), .tup (nats r)]])]) := by
    simp -implicitDefEqProofs only [Stms.ev, Stm.ev, Ex.ev, Ex.evT, Exs.ev, Exs.evAnd, Exs.evOr, Exs.evTAnd, Exs.evTOr, Ox.ev, Ox.evT, Lx.ev, It.ev, v_c, v_bin, v_cmp, v_bl, v_isN, v_ntN, v_not, v_tru, v_asB, v_and, v_or, v_if, v_tup, v_nil, v_cons, v_sub, v_onone, v_osome, v_slice, v_call, v_glb, v_ofE, v_disp, v_cat, v_bi1, v_biL, v_isi, v_inS, v_sidx, v_join, v_subL, v_new, v_dct, v_lenSet, v_attr, v_meth, v_nox, v_dct0, v_dcp, v_dget, v_dpop, v_chain, v_tupE, v_min2, v_listT, v_sortS, v_neL, strE, refE, q_v_setI, q_v_setA, q_v_augA, q_v_parA, v_yes, v_itL, v_itA, v_itR1, v_itR2, v_lc, q_v_asg, q_v_par, q_v_setD, q_v_expr, q_v_app, q_v_if, q_v_for, q_v_ret, o_add, o_sub, c_lt, c_le, c_gt, c_ge, a_add, R.bind_ok, R.bind_ex, R.bind_bad, R.st_ok, R.st_ex, R.st_bad, RS.seq_nx, RS.seq_rt, RS.seq_ex, RS.seq_bk, RS.seq_ct, RS.seq_bad, optR_some, optR_none, Tg.set, setAll, asB, Lt.truthy, isNon, biLE, getL_tmp, getM_tmp, Option.isSome_some, reduceIte, if_true, if_false, Bool.false_eq_true, Option.map_some, w0, w1, w2, w3, w4, w5, w6, w7, w8, w9, w10, w11, w12, w13, w14, w15, w16, w17, w18, w19, w20, w21, w22, w23, w24, x0, x1, x2, x3, x4, x5, x6, x7, x8, x9, x10, x11, x12, x13, x14, x15, x16, x17, x18, x19, x20, x21, x22, x23, x24, z0, z1, z2, z3, z4, z5, z6, z7, z8, z9, z10, z11, z12, z13, z14, z15, z16, z17, z18, z19, z20, z21, z22, z23, z24, y0, y1, y2, y3, y4, y5, y6, y7, y8, y9, y10, y11, y12, y13, y14, y15, y16, y17, y18, y19, y20, y21, y22, y23, y24, qa0, e1, e2, intE, hin, Int.toNat_natCast, wipeR, List.map_cons, List.map_nil, e3, m1, ar3, e4, ln4, ln1, gl, gm, lt]
    all_goals rfl
  have hl := h3.lt
  refine ⟨_, fd, H4.length, wd, s + 1, kept, done now ⟨.wr, n, p, r⟩, w ++ [⟨.wr, n, p, r⟩], some (.int (p : Int)), some (.tup (nats r)), s13, e, ⟨q1.app, DA.app ⟨_, _, hd4⟩, get_app q2, ?_, h3.ne1, by have := hF.1; omega⟩, hP.more (d := ⟨.wr, n, p, r⟩) hn (by show r.length ≤ 50; omega)⟩
  rw [List.map_append]
  exact get_new
theorem blk_cut (h : Hp H D fd wr wd s kept now w) (hP : Pl kept now w t) (ht : t ≤ 40) (hn : n ∈ names3) :
    Aft (t + 1) D s0 s5 (some (.str n)) s7 s8 (some (.int ((getF now n).length : Int))) s11 s14 s15 s16 s18 s19 s20 s21 (qa1.ev (Pn 12) [s0, some (.ref 2), some (.ref fd), some (.ref wr), some (.int s), s5, some (.str n), s7, s8, some (.int ((getF now n).length : Int)), s10, s11, s12, s13, s14, s15, s16, some (.ref D), s18, s19, s20, s21] H) := by
  have hlen := hP.gn.len n
  have hfew := hP.few
  obtain ⟨p, H3, e1, h3, hp⟩ := h.tk (m := (getF now n).length + 1) (by omega) (by omega)
  have e1 : (Pn 12).cl 3 [.ref 2, .int ((getF now n).length + 1 : Int)] H = _ := e1
  obtain ⟨kd, nd, hd⟩ := h3.disk.ex
  obtain ⟨H4, e4, hd4, hF⟩ := cut_ok (k := 9) (n := n) (p := p) hd (.inl rfl) (by omega) (hP.gn.fit (d := ⟨.ct, n, p, []⟩) (by show 50 * t + 0 ≤ _; omega)) (hP.gn.h40 (d := ⟨.ct, n, p, []⟩) (n34 hn)) (by omega)
  have e4 : (Pn 12).cl 17 [.ref D, .str n, .int (p : Int)] H3 = .ok .non H4 := e4
  have m1 := me_cut (k := 12) hd.at_
  obtain ⟨q1, q2, q3⟩ := h3.fr hF
  have gl := getL_at q3
  have gm := getM_at q3
  have lt : ((w.map Dd.e).length + [E.tup [.str "cut", .str n, .int (p : Int), .tup []]].length ≤ sizeLine) = True := eq_true (le_line (by simp; omega))
  have e : qa1.ev (Pn 12) [s0, some (.ref 2), some (.ref fd), some (.ref wr), some (.int s), s5, some (.str n), s7, s8, some (.int ((getF now n).length : Int)), s10, s11, s12, s13, s14, s15, s16, some (.ref D), s18, s19, s20, s21] H = .nx [s0, some (.ref 2), some (.ref fd), some (.ref H4.length), some (.int (s + 1)), s5, some (.str n), s7, s8, some (.int ((getF now n).length : Int)), some (.int (p : Int)), s11, s12, s13, s14, s15, s16, some (.ref D), s18, s19, s20, s21] (H4 ++ [.lst (w.map Dd.e ++ [E.tup [.str "cut", .str n, .int (p : Int), .tup []]])]) := by
    simp -implicitDefEqProofs only [Stms.ev, Stm.ev, Ex.ev, Ex.evT, Exs.ev, Exs.evAnd, Exs.evOr, Exs.evTAnd, Exs.evTOr, Ox.ev, Ox.evT, Lx.ev, It.ev, v_c, v_bin, v_cmp, v_bl, v_isN, v_ntN, v_not, v_tru, v_asB, v_and, v_or, v_if, v_tup, v_nil, v_cons, v_sub, v_onone, v_osome, v_slice, v_call, v_glb, v_ofE, v_disp, v_cat, v_bi1, v_biL, v_isi, v_inS, v_sidx, v_join, v_subL, v_new, v_dct, v_lenSet, v_attr, v_meth, v_nox, v_dct0, v_dcp, v_dget, v_dpop, v_chain, v_tupE, v_min2, v_listT, v_sortS, v_neL, strE, refE, q_v_setI, q_v_setA, q_v_augA, q_v_parA, v_yes, v_itL, v_itA, v_itR1, v_itR2, v_lc, q_v_asg, q_v_par, q_v_setD, q_v_expr, q_v_app, q_v_if, q_v_for, q_v_ret, o_add, o_sub, c_lt, c_le, c_gt, c_ge, a_add, R.bind_ok, R.bind_ex, R.bind_bad, R.st_ok, R.st_ex, R.st_bad, RS.seq_nx, RS.seq_rt, RS.seq_ex, RS.seq_bk, RS.seq_ct, RS.seq_bad, optR_some, optR_none, Tg.set, setAll, asB, Lt.truthy, isNon, biLE, getL_tmp, getM_tmp, Option.isSome_some, reduceIte, if_true, if_false, Bool.false_eq_true, Option.map_some, w0, w1, w2, w3, w4, w5, w6, w7, w8, w9, w10, w11, w12, w13, w14, w15, w16, w17, w18, w19, w20, w21, w22, w23, w24, x0, x1, x2, x3, x4, x5, x6, x7, x8, x9, x10, x11, x12, x13, x14, x15, x16, x17, x18, x19, x20, x21, x22, x23, x24, z0, z1, z2, z3, z4, z5, z6, z7, z8, z9, z10, z11, z12, z13, z14, z15, z16, z17, z18, z19, z20, z21, z22, z23, z24, y0, y1, y2, y3, y4, y5, y6, y7, y8, y9, y10, y11, y12, y13, y14, y15, y16, y17, y18, y19, y20, y21, y22, y23, y24, qa1, e1, m1, ar2, e4, ln4, ln1, ln0, gl, gm, lt]
    all_goals rfl
  have hl := h3.lt
  refine ⟨_, fd, H4.length, wd, s + 1, kept, done now ⟨.ct, n, p, []⟩, w ++ [⟨.ct, n, p, []⟩], some (.int (p : Int)), s12, s13, e, ⟨q1.app, DA.app ⟨_, _, hd4⟩, get_app q2, ?_, h3.ne1, by have := hF.1; omega⟩, hP.more (d := ⟨.ct, n, p, []⟩) hn (by show 0 ≤ 50; omega)⟩
  rw [List.map_append]
  exact get_new
theorem blk_remove (h : Hp H D fd wr wd s kept now w) (hP : Pl kept now w t) (ht : t ≤ 40) (hn : n ∈ names3) :
    Aft (t + 1) D s0 s5 (some (.str n)) s7 s8 s9 s11 s14 s15 s16 s18 s19 s20 s21 (qa2.ev (Pn 12) [s0, some (.ref 2), some (.ref fd), some (.ref wr), some (.int s), s5, some (.str n), s7, s8, s9, s10, s11, s12, s13, s14, s15, s16, some (.ref D), s18, s19, s20, s21] H) := by
  have hfew := hP.few
  obtain ⟨kd, nd, hd⟩ := h.disk.ex
  obtain ⟨H4, e4, hd4, hF⟩ := remove_ok (k := 9) (n := n) hd (.inl rfl) (hP.gn.fit (d := ⟨.rm, n, 0, []⟩) (by show 50 * t + 0 ≤ _; omega)) (hP.gn.h40 (d := ⟨.rm, n, 0, []⟩) (n34 hn)) (by omega)
  have e4 : (Pn 12).cl 18 [.ref D, .str n] H = .ok .non H4 := e4
  have m1 := me_remove (k := 12) hd.at_
  obtain ⟨q1, q2, q3⟩ := h.fr hF
  have gl := getL_at q3
  have gm := getM_at q3
  have lt : ((w.map Dd.e).length + [E.tup [.str "remove", .str n, .int 0, .tup []]].length ≤ sizeLine) = True := eq_true (le_line (by simp; omega))
  have e : qa2.ev (Pn 12) [s0, some (.ref 2), some (.ref fd), some (.ref wr), some (.int s), s5, some (.str n), s7, s8, s9, s10, s11, s12, s13, s14, s15, s16, some (.ref D), s18, s19, s20, s21] H = .nx [s0, some (.ref 2), some (.ref fd), some (.ref H4.length), some (.int (s + 1)), s5, some (.str n), s7, s8, s9, s10, s11, s12, s13, s14, s15, s16, some (.ref D), s18, s19, s20, s21] (H4 ++ [.lst (w.map Dd.e ++ [E.tup [.str "remove", .str n, .int 0, .tup []]])]) := by
    simp -implicitDefEqProofs only [Stms.ev, Stm.ev, Ex.ev, Ex.evT, Exs.ev, Exs.evAnd, Exs.evOr, Exs.evTAnd, Exs.evTOr, Ox.ev, Ox.evT, Lx.ev, It.ev, v_c, v_bin, v_cmp, v_bl, v_isN, v_ntN, v_not, v_tru, v_asB, v_and, v_or, v_if, v_tup, v_nil, v_cons, v_sub, v_onone, v_osome, v_slice, v_call, v_glb, v_ofE, v_disp, v_cat, v_bi1, v_biL, v_isi, v_inS, v_sidx, v_join, v_subL, v_new, v_dct, v_lenSet, v_attr, v_meth, v_nox, v_dct0, v_dcp, v_dget, v_dpop, v_chain, v_tupE, v_min2, v_listT, v_sortS, v_neL, strE, refE, q_v_setI, q_v_setA, q_v_augA, q_v_parA, v_yes, v_itL, v_itA, v_itR1, v_itR2, v_lc, q_v_asg, q_v_par, q_v_setD, q_v_expr, q_v_app, q_v_if, q_v_for, q_v_ret, o_add, o_sub, c_lt, c_le, c_gt, c_ge, a_add, R.bind_ok, R.bind_ex, R.bind_bad, R.st_ok, R.st_ex, R.st_bad, RS.seq_nx, RS.seq_rt, RS.seq_ex, RS.seq_bk, RS.seq_ct, RS.seq_bad, optR_some, optR_none, Tg.set, setAll, asB, Lt.truthy, isNon, biLE, getL_tmp, getM_tmp, Option.isSome_some, reduceIte, if_true, if_false, Bool.false_eq_true, Option.map_some, w0, w1, w2, w3, w4, w5, w6, w7, w8, w9, w10, w11, w12, w13, w14, w15, w16, w17, w18, w19, w20, w21, w22, w23, w24, x0, x1, x2, x3, x4, x5, x6, x7, x8, x9, x10, x11, x12, x13, x14, x15, x16, x17, x18, x19, x20, x21, x22, x23, x24, z0, z1, z2, z3, z4, z5, z6, z7, z8, z9, z10, z11, z12, z13, z14, z15, z16, z17, z18, z19, z20, z21, z22, z23, z24, y0, y1, y2, y3, y4, y5, y6, y7, y8, y9, y10, y11, y12, y13, y14, y15, y16, y17, y18, y19, y20, y21, y22, y23, y24, qa2, m1, ar1, e4, ln4, ln1, ln0, gl, gm, lt]
    all_goals rfl
  have hl := h.lt
  refine ⟨_, fd, H4.length, wd, s + 1, kept, done now ⟨.rm, n, 0, []⟩, w ++ [⟨.rm, n, 0, []⟩], s10, s12, s13, e, ⟨q1.app, DA.app ⟨_, _, hd4⟩, get_app q2, ?_, h.ne1, by have := hF.1; omega⟩, hP.more (d := ⟨.rm, n, 0, []⟩) hn (by show 0 ≤ 50; omega)⟩
  rw [List.map_append]
  exact get_new
end
end K02
end
section
set_option Elab.async false
set_option linter.all false
set_option maxRecDepth 100000
set_option maxHeartbeats 1000000
/-! k02: a turn's sync, a turn's loss. -/
namespace K02
open PySem Lt
theorem lc_no {st : Option Nat} {all : List E} {tg : Tg} {x : E} {r : List E} {ρ ρ1 : Ro} {H : Hq} {c : Sx Bool} {e : Sx E} {acc : List E} (hs : staysB st all H = true) (ht : tg.set x ρ = some ρ1) (hc : c ρ1 H = .ok false H) :
    lcS st all tg c e ρ (x :: r) acc H = lcS st all tg c e ρ r acc H := by
  show (if staysB st all H then _ else _) = _
  rw [if_pos hs, ht]
  show ((c ρ1 H).nox.bind fun b G1 => if b then ((e ρ1 G1).nox).bind fun y G2 => if acc.length < sizeLine then lcS st all tg c e ρ r (acc ++ [y]) G2 else .bad else lcS st all tg c e ρ r acc G1) = _
  rw [hc]
  rfl
theorem lc_flt {α : Type} {H : Hq} {st : Option Nat} {all : List E} {g : α → E} {p : α → Bool} {c : Sx Bool} {e : Sx E} {n : Nm} {ρ : Ro} (hs : staysB st all H = true) : ∀ (l : List α) (acc : List E), (∀ a ∈ l, c (ρ.set n.i (some (g a))) H = .ok (p a) H ∧ e (ρ.set n.i (some (g a))) H = .ok (g a) H) → acc.length + l.length ≤ 16777216 →
    lcS st all (.name n) c e ρ (l.map g) acc H = .ok (acc ++ (l.filter p).map g) H
  | [], acc, _, _ => by rw [List.map_nil, lc_end hs]; simp
  | a :: l, acc, he, hl => by
    rw [List.length_cons] at hl
    obtain ⟨h1, h2⟩ := he a List.mem_cons_self
    have ih := fun acc hl => lc_flt (p := p) (c := c) (e := e) (n := n) (ρ := ρ) hs l acc (fun b hb => he b (List.mem_cons_of_mem _ hb)) hl
    by_cases q : p a = true
    · rw [q] at h1
      rw [List.map_cons, lc_turn (ρ1 := ρ.set n.i (some (g a))) hs rfl h1 h2 (by omega), ih _ (by simp; omega), List.filter_cons_of_pos q]
      simp
    · rw [show p a = false by simpa using q] at h1
      rw [List.map_cons, lc_no (ρ1 := ρ.set n.i (some (g a))) hs rfl h1, ih _ (by omega), List.filter_cons_of_neg q]
section
variable {H : Hq} {D fd wr wd t : Nat} {s : Int} {kept now : Fl} {w : List Dd} {n : Str}
variable {s0 s1 s2 s3 s4 s5 s6 s7 s8 s9 s10 s11 s12 s13 s14 s15 s16 s17 s18 s19 s20 s21 : Option E}
theorem blk_sync (h : Hp H D fd wr wd s kept now w) (hP : Pl kept now w t) (ht : t ≤ 40) :
    Aft (t + 1) D s0 s5 (some (.str n)) s7 s8 s9 s11 s14 s15 s16 s18 s19 s20 s21 (qa3.ev (Pn 12) [s0, some (.ref 2), some (.ref fd), some (.ref wr), some (.int s), s5, some (.str n), s7, s8, s9, s10, s11, s12, s13, s14, s15, s16, some (.ref D), s18, s19, s20, s21] H) := by
  have hfew := hP.few
  have hspl := len_split n w
  obtain ⟨kd, nd, hd⟩ := h.disk.ex
  obtain ⟨H1, kd1, e1, hd1, hF⟩ := sync_ok (k := 10) (n := n) hd (.inl rfl) hP.gk' hP.own4 (by omega) (by omega)
  have e1 : (Pn 12).cl 19 [.ref D, .str n] H = .ok .non H1 := e1
  have m1 := me_sync (k := 12) hd.at_
  obtain ⟨q1, q2, q3⟩ := h.fr hF
  have it1 := it_at q3
  have f1 : lcS (some wr) (w.map Dd.e) (.name ⟨19, "deed", ⟨200, 55, 200, 59⟩⟩) _ (b7_6.ev (Pn 12)) [s0, some (.ref 2), some (.ref fd), some (.ref wr), some (.int s), s5, some (.str n), s7, s8, s9, s10, s11, s12, s13, s14, s15, s16, some (.ref D), none, none, s20, s21] (w.map Dd.e) [] H1 = .ok ([] ++ (w.filter fun d => decide (d.n = n)).map Dd.e) H1 :=
    lc_flt (p := fun d => decide (d.n = n)) (g := Dd.e) (c := (Ox.some (.cmp .eq (.sub (.var 19 "deed" ⟨200, 74, 200, 78⟩) (.int 1 0 ⟨200, 79, 200, 80⟩) ⟨200, 74, 200, 81⟩) (.var 6 "name" ⟨200, 85, 200, 89⟩) ⟨200, 74, 200, 89⟩)).evT (Pn 12)) (stays_at q3) w [] (fun d hd => by
      refine ⟨?_, ?_⟩
      · show (Ox.some (.cmp .eq (.sub (.var 19 "deed" ⟨200, 74, 200, 78⟩) (.int 1 0 ⟨200, 79, 200, 80⟩) ⟨200, 74, 200, 81⟩) (.var 6 "name" ⟨200, 85, 200, 89⟩) ⟨200, 74, 200, 89⟩)).evT (Pn 12) [s0, some (.ref 2), some (.ref fd), some (.ref wr), some (.int s), s5, some (.str n), s7, s8, s9, s10, s11, s12, s13, s14, s15, s16, some (.ref D), none, some (d.e), s20, s21] H1 = _
        simp -implicitDefEqProofs only [Stms.ev, Stm.ev, Ex.ev, Ex.evT, Exs.ev, Exs.evAnd, Exs.evOr, Exs.evTAnd, Exs.evTOr, Ox.ev, Ox.evT, Lx.ev, It.ev, v_c, v_bin, v_cmp, v_bl, v_isN, v_ntN, v_not, v_tru, v_asB, v_and, v_or, v_if, v_tup, v_nil, v_cons, v_sub, v_onone, v_osome, v_slice, v_call, v_glb, v_ofE, v_disp, v_cat, v_bi1, v_biL, v_isi, v_inS, v_sidx, v_join, v_subL, v_new, v_dct, v_lenSet, v_attr, v_meth, v_nox, v_dct0, v_dcp, v_dget, v_dpop, v_chain, v_tupE, v_min2, v_listT, v_sortS, v_neL, strE, refE, q_v_setI, q_v_setA, q_v_augA, q_v_parA, v_yes, v_itL, v_itA, v_itR1, v_itR2, v_lc, q_v_asg, q_v_par, q_v_setD, q_v_expr, q_v_app, q_v_if, q_v_for, q_v_ret, o_add, o_sub, c_lt, c_le, c_gt, c_ge, a_add, R.bind_ok, R.bind_ex, R.bind_bad, R.st_ok, R.st_ex, R.st_bad, RS.seq_nx, RS.seq_rt, RS.seq_ex, RS.seq_bk, RS.seq_ct, RS.seq_bad, optR_some, optR_none, Tg.set, setAll, asB, Lt.truthy, isNon, biLE, getL_tmp, getM_tmp, Option.isSome_some, reduceIte, if_true, if_false, Bool.false_eq_true, Option.map_some, w0, w1, w2, w3, w4, w5, w6, w7, w8, w9, w10, w11, w12, w13, w14, w15, w16, w17, w18, w19, w20, w21, w22, w23, w24, x0, x1, x2, x3, x4, x5, x6, x7, x8, x9, x10, x11, x12, x13, x14, x15, x16, x17, x18, x19, x20, x21, x22, x23, x24, z0, z1, z2, z3, z4, z5, z6, z7, z8, z9, z10, z11, z12, z13, z14, z15, z16, z17, z18, z19, z20, z21, z22, z23, z24, y0, y1, y2, y3, y4, y5, y6, y7, y8, y9, y10, y11, y12, y13, y14, y15, y16, y17, y18, y19, y20, y21, y22, y23, y24, sub_e1, c_eqS]
      · show b7_6.ev (Pn 12) [s0, some (.ref 2), some (.ref fd), some (.ref wr), some (.int s), s5, some (.str n), s7, s8, s9, s10, s11, s12, s13, s14, s15, s16, some (.ref D), none, some (d.e), s20, s21] H1 = _
        simp -implicitDefEqProofs only [Stms.ev, Stm.ev, Ex.ev, Ex.evT, Exs.ev, Exs.evAnd, Exs.evOr, Exs.evTAnd, Exs.evTOr, Ox.ev, Ox.evT, Lx.ev, It.ev, v_c, v_bin, v_cmp, v_bl, v_isN, v_ntN, v_not, v_tru, v_asB, v_and, v_or, v_if, v_tup, v_nil, v_cons, v_sub, v_onone, v_osome, v_slice, v_call, v_glb, v_ofE, v_disp, v_cat, v_bi1, v_biL, v_isi, v_inS, v_sidx, v_join, v_subL, v_new, v_dct, v_lenSet, v_attr, v_meth, v_nox, v_dct0, v_dcp, v_dget, v_dpop, v_chain, v_tupE, v_min2, v_listT, v_sortS, v_neL, strE, refE, q_v_setI, q_v_setA, q_v_augA, q_v_parA, v_yes, v_itL, v_itA, v_itR1, v_itR2, v_lc, q_v_asg, q_v_par, q_v_setD, q_v_expr, q_v_app, q_v_if, q_v_for, q_v_ret, o_add, o_sub, c_lt, c_le, c_gt, c_ge, a_add, R.bind_ok, R.bind_ex, R.bind_bad, R.st_ok, R.st_ex, R.st_bad, RS.seq_nx, RS.seq_rt, RS.seq_ex, RS.seq_bk, RS.seq_ct, RS.seq_bad, optR_some, optR_none, Tg.set, setAll, asB, Lt.truthy, isNon, biLE, getL_tmp, getM_tmp, Option.isSome_some, reduceIte, if_true, if_false, Bool.false_eq_true, Option.map_some, w0, w1, w2, w3, w4, w5, w6, w7, w8, w9, w10, w11, w12, w13, w14, w15, w16, w17, w18, w19, w20, w21, w22, w23, w24, x0, x1, x2, x3, x4, x5, x6, x7, x8, x9, x10, x11, x12, x13, x14, x15, x16, x17, x18, x19, x20, x21, x22, x23, x24, z0, z1, z2, z3, z4, z5, z6, z7, z8, z9, z10, z11, z12, z13, z14, z15, z16, z17, z18, z19, z20, z21, z22, z23, z24, y0, y1, y2, y3, y4, y5, y6, y7, y8, y9, y10, y11, y12, y13, y14, y15, y16, y17, y18, y19, y20, y21, y22, y23, y24, b7_6]) (by simp; omega)
  rw [List.nil_append, show (w.filter fun d => decide (d.n = n)) = own n w from rfl] at f1
  simp -implicitDefEqProofs only [Ox.evT, Ex.evT, Ex.ev] at f1
  have gN : (H1 ++ [Ob.lst ((own n w).map Dd.e)])[H1.length]? = some (.lst ((own n w).map Dd.e)) := get_new
  obtain ⟨f2, J, e2, hf2⟩ := law_seen_ok (k := 10) (get_app (J := [Ob.lst ((own n w).map Dd.e)]) q2) gN hP.gk'.bd (fun d hd => (hP.own4 d (List.mem_filter.mp hd).1).2) (by omega) (by omega)
  have e2 : (Pn 12).cl 5 [.ref fd, .ref H1.length] (H1 ++ [Ob.lst ((own n w).map Dd.e)]) = _ := e2
  generalize hH2 : H1 ++ [Ob.lst ((own n w).map Dd.e)] ++ J = H2 at e2 hf2
  have q3' : H2[wr]? = some (.lst (w.map Dd.e)) := by rw [← hH2]; exact get_app (get_app q3)
  have it2 := it_at q3'
  have f3 : lcS (some wr) (w.map Dd.e) (.name ⟨19, "deed", ⟨201, 32, 201, 36⟩⟩) _ (b7_5.ev (Pn 12)) [s0, some (.ref 2), some (.ref f2), some (.ref wr), some (.int (s + 1)), s5, some (.str n), s7, s8, s9, s10, s11, s12, s13, s14, s15, s16, some (.ref D), none, none, s20, s21] (w.map Dd.e) [] H2 = .ok ([] ++ (w.filter fun d => !decide (d.n = n)).map Dd.e) H2 :=
    lc_flt (p := fun d => !decide (d.n = n)) (g := Dd.e) (c := (Ox.some (.cmp .ne (.sub (.var 19 "deed" ⟨201, 51, 201, 55⟩) (.int 1 0 ⟨201, 56, 201, 57⟩) ⟨201, 51, 201, 58⟩) (.var 6 "name" ⟨201, 62, 201, 66⟩) ⟨201, 51, 201, 66⟩)).evT (Pn 12)) (stays_at q3') w [] (fun d hd => by
      refine ⟨?_, ?_⟩
      · show (Ox.some (.cmp .ne (.sub (.var 19 "deed" ⟨201, 51, 201, 55⟩) (.int 1 0 ⟨201, 56, 201, 57⟩) ⟨201, 51, 201, 58⟩) (.var 6 "name" ⟨201, 62, 201, 66⟩) ⟨201, 51, 201, 66⟩)).evT (Pn 12) [s0, some (.ref 2), some (.ref f2), some (.ref wr), some (.int (s + 1)), s5, some (.str n), s7, s8, s9, s10, s11, s12, s13, s14, s15, s16, some (.ref D), none, some (d.e), s20, s21] H2 = _
        simp -implicitDefEqProofs only [Stms.ev, Stm.ev, Ex.ev, Ex.evT, Exs.ev, Exs.evAnd, Exs.evOr, Exs.evTAnd, Exs.evTOr, Ox.ev, Ox.evT, Lx.ev, It.ev, v_c, v_bin, v_cmp, v_bl, v_isN, v_ntN, v_not, v_tru, v_asB, v_and, v_or, v_if, v_tup, v_nil, v_cons, v_sub, v_onone, v_osome, v_slice, v_call, v_glb, v_ofE, v_disp, v_cat, v_bi1, v_biL, v_isi, v_inS, v_sidx, v_join, v_subL, v_new, v_dct, v_lenSet, v_attr, v_meth, v_nox, v_dct0, v_dcp, v_dget, v_dpop, v_chain, v_tupE, v_min2, v_listT, v_sortS, v_neL, strE, refE, q_v_setI, q_v_setA, q_v_augA, q_v_parA, v_yes, v_itL, v_itA, v_itR1, v_itR2, v_lc, q_v_asg, q_v_par, q_v_setD, q_v_expr, q_v_app, q_v_if, q_v_for, q_v_ret, o_add, o_sub, c_lt, c_le, c_gt, c_ge, a_add, R.bind_ok, R.bind_ex, R.bind_bad, R.st_ok, R.st_ex, R.st_bad, RS.seq_nx, RS.seq_rt, RS.seq_ex, RS.seq_bk, RS.seq_ct, RS.seq_bad, optR_some, optR_none, Tg.set, setAll, asB, Lt.truthy, isNon, biLE, getL_tmp, getM_tmp, Option.isSome_some, reduceIte, if_true, if_false, Bool.false_eq_true, Option.map_some, w0, w1, w2, w3, w4, w5, w6, w7, w8, w9, w10, w11, w12, w13, w14, w15, w16, w17, w18, w19, w20, w21, w22, w23, w24, x0, x1, x2, x3, x4, x5, x6, x7, x8, x9, x10, x11, x12, x13, x14, x15, x16, x17, x18, x19, x20, x21, x22, x23, x24, z0, z1, z2, z3, z4, z5, z6, z7, z8, z9, z10, z11, z12, z13, z14, z15, z16, z17, z18, z19, z20, z21, z22, z23, z24, y0, y1, y2, y3, y4, y5, y6, y7, y8, y9, y10, y11, y12, y13, y14, y15, y16, y17, y18, y19, y20, y21, y22, y23, y24, sub_e1, c_neS]
      · show b7_5.ev (Pn 12) [s0, some (.ref 2), some (.ref f2), some (.ref wr), some (.int (s + 1)), s5, some (.str n), s7, s8, s9, s10, s11, s12, s13, s14, s15, s16, some (.ref D), none, some (d.e), s20, s21] H2 = _
        simp -implicitDefEqProofs only [Stms.ev, Stm.ev, Ex.ev, Ex.evT, Exs.ev, Exs.evAnd, Exs.evOr, Exs.evTAnd, Exs.evTOr, Ox.ev, Ox.evT, Lx.ev, It.ev, v_c, v_bin, v_cmp, v_bl, v_isN, v_ntN, v_not, v_tru, v_asB, v_and, v_or, v_if, v_tup, v_nil, v_cons, v_sub, v_onone, v_osome, v_slice, v_call, v_glb, v_ofE, v_disp, v_cat, v_bi1, v_biL, v_isi, v_inS, v_sidx, v_join, v_subL, v_new, v_dct, v_lenSet, v_attr, v_meth, v_nox, v_dct0, v_dcp, v_dget, v_dpop, v_chain, v_tupE, v_min2, v_listT, v_sortS, v_neL, strE, refE, q_v_setI, q_v_setA, q_v_augA, q_v_parA, v_yes, v_itL, v_itA, v_itR1, v_itR2, v_lc, q_v_asg, q_v_par, q_v_setD, q_v_expr, q_v_app, q_v_if, q_v_for, q_v_ret, o_add, o_sub, c_lt, c_le, c_gt, c_ge, a_add, R.bind_ok, R.bind_ex, R.bind_bad, R.st_ok, R.st_ex, R.st_bad, RS.seq_nx, RS.seq_rt, RS.seq_ex, RS.seq_bk, RS.seq_ct, RS.seq_bad, optR_some, optR_none, Tg.set, setAll, asB, Lt.truthy, isNon, biLE, getL_tmp, getM_tmp, Option.isSome_some, reduceIte, if_true, if_false, Bool.false_eq_true, Option.map_some, w0, w1, w2, w3, w4, w5, w6, w7, w8, w9, w10, w11, w12, w13, w14, w15, w16, w17, w18, w19, w20, w21, w22, w23, w24, x0, x1, x2, x3, x4, x5, x6, x7, x8, x9, x10, x11, x12, x13, x14, x15, x16, x17, x18, x19, x20, x21, x22, x23, x24, z0, z1, z2, z3, z4, z5, z6, z7, z8, z9, z10, z11, z12, z13, z14, z15, z16, z17, z18, z19, z20, z21, z22, z23, z24, y0, y1, y2, y3, y4, y5, y6, y7, y8, y9, y10, y11, y12, y13, y14, y15, y16, y17, y18, y19, y20, y21, y22, y23, y24, b7_5]) (by simp; omega)
  rw [List.nil_append, show (w.filter fun d => !decide (d.n = n)) = oth n w from rfl] at f3
  simp -implicitDefEqProofs only [Ox.evT, Ex.evT, Ex.ev] at f3
  have e : qa3.ev (Pn 12) [s0, some (.ref 2), some (.ref fd), some (.ref wr), some (.int s), s5, some (.str n), s7, s8, s9, s10, s11, s12, s13, s14, s15, s16, some (.ref D), s18, s19, s20, s21] H = .nx [s0, some (.ref 2), some (.ref f2), some (.ref H2.length), some (.int (s + 1)), s5, some (.str n), s7, s8, s9, s10, s11, s12, s13, s14, s15, s16, some (.ref D), s18, s19, s20, s21] (H2 ++ [.lst ((oth n w).map Dd.e)]) := by
    simp -implicitDefEqProofs only [Stms.ev, Stm.ev, Ex.ev, Ex.evT, Exs.ev, Exs.evAnd, Exs.evOr, Exs.evTAnd, Exs.evTOr, Ox.ev, Ox.evT, Lx.ev, It.ev, v_c, v_bin, v_cmp, v_bl, v_isN, v_ntN, v_not, v_tru, v_asB, v_and, v_or, v_if, v_tup, v_nil, v_cons, v_sub, v_onone, v_osome, v_slice, v_call, v_glb, v_ofE, v_disp, v_cat, v_bi1, v_biL, v_isi, v_inS, v_sidx, v_join, v_subL, v_new, v_dct, v_lenSet, v_attr, v_meth, v_nox, v_dct0, v_dcp, v_dget, v_dpop, v_chain, v_tupE, v_min2, v_listT, v_sortS, v_neL, strE, refE, q_v_setI, q_v_setA, q_v_augA, q_v_parA, v_yes, v_itL, v_itA, v_itR1, v_itR2, v_lc, q_v_asg, q_v_par, q_v_setD, q_v_expr, q_v_app, q_v_if, q_v_for, q_v_ret, o_add, o_sub, c_lt, c_le, c_gt, c_ge, a_add, R.bind_ok, R.bind_ex, R.bind_bad, R.st_ok, R.st_ex, R.st_bad, RS.seq_nx, RS.seq_rt, RS.seq_ex, RS.seq_bk, RS.seq_ct, RS.seq_bad, optR_some, optR_none, Tg.set, setAll, asB, Lt.truthy, isNon, biLE, getL_tmp, getM_tmp, Option.isSome_some, reduceIte, if_true, if_false, Bool.false_eq_true, Option.map_some, w0, w1, w2, w3, w4, w5, w6, w7, w8, w9, w10, w11, w12, w13, w14, w15, w16, w17, w18, w19, w20, w21, w22, w23, w24, x0, x1, x2, x3, x4, x5, x6, x7, x8, x9, x10, x11, x12, x13, x14, x15, x16, x17, x18, x19, x20, x21, x22, x23, x24, z0, z1, z2, z3, z4, z5, z6, z7, z8, z9, z10, z11, z12, z13, z14, z15, z16, z17, z18, z19, z20, z21, z22, z23, z24, y0, y1, y2, y3, y4, y5, y6, y7, y8, y9, y10, y11, y12, y13, y14, y15, y16, y17, y18, y19, y20, y21, y22, y23, y24, qa3, m1, ar1, e1, it1, wipeR, List.map_cons, List.map_nil, f1, e2, ln2, it2, f3]
    all_goals rfl
  have hl := h.lt
  have hl1 := (List.getElem?_eq_some_iff.mp hd1.wait).1
  have hl2 : H1.length ≤ H2.length := by rw [← hH2, List.length_append, List.length_append]; omega
  refine ⟨_, f2, H2.length, H.length, s + 1, _, now, oth n w, s10, s12, s13, e, ⟨?_, ?_, get_app hf2, get_new, by omega, by omega⟩, hP.sync n⟩
  · rw [← hH2]; exact q1.app.app.app
  · rw [← hH2]; exact DA.app (DA.app (DA.app ⟨_, _, hd1⟩))
theorem pick_take (h : Hp H D fd wr wd s kept now w) : ∀ d : Nat, d ≤ 100 → ∃ xs H1, lcS none (rng 0 d) (.name ⟨11, "k", ⟨203, 50, 203, 51⟩⟩) sYes (b7_8.ev (Pn 12)) [s0, some (.ref 2), s2, s3, s4, s5, s6, s7, s8, s9, s10, none, s12, s13, s14, s15, s16, s17, none, s19, s20, s21] (rng 0 d) [] H = .ok (nats xs) H1 ∧ Hp H1 D fd wr wd s kept now w ∧ xs.length = d := by
  intro d hd
  obtain ⟨xs, v, h1, h2, h3, h4⟩ := lc_tape (all := rng 0 d) (n := ⟨11, "k", ⟨203, 50, 203, 51⟩⟩) (ρ := [s0, some (.ref 2), s2, s3, s4, s5, s6, s7, s8, s9, s10, none, s12, s13, s14, s15, s16, s17, none, s19, s20, s21]) (g := fun a : Nat => E.int (a : Int)) (Q := fun a => a < 5) (e := b7_8.ev (Pn 12)) (fun y G hG => by
    obtain ⟨x, v, q1, q2, q3⟩ := law_take_ok (k := 11) hG (m := 5) (by omega) (by omega)
    have q1 : (Pn 12).cl 3 [.ref 2, .int 5] G = _ := q1
    refine ⟨x, v, ?_, q2, q3⟩
    show b7_8.ev (Pn 12) [s0, some (.ref 2), s2, s3, s4, s5, s6, s7, s8, s9, s10, some (y), s12, s13, s14, s15, s16, s17, none, s19, s20, s21] G = _
    simp -implicitDefEqProofs only [Stms.ev, Stm.ev, Ex.ev, Ex.evT, Exs.ev, Exs.evAnd, Exs.evOr, Exs.evTAnd, Exs.evTOr, Ox.ev, Ox.evT, Lx.ev, It.ev, v_c, v_bin, v_cmp, v_bl, v_isN, v_ntN, v_not, v_tru, v_asB, v_and, v_or, v_if, v_tup, v_nil, v_cons, v_sub, v_onone, v_osome, v_slice, v_call, v_glb, v_ofE, v_disp, v_cat, v_bi1, v_biL, v_isi, v_inS, v_sidx, v_join, v_subL, v_new, v_dct, v_lenSet, v_attr, v_meth, v_nox, v_dct0, v_dcp, v_dget, v_dpop, v_chain, v_tupE, v_min2, v_listT, v_sortS, v_neL, strE, refE, q_v_setI, q_v_setA, q_v_augA, q_v_parA, v_yes, v_itL, v_itA, v_itR1, v_itR2, v_lc, q_v_asg, q_v_par, q_v_setD, q_v_expr, q_v_app, q_v_if, q_v_for, q_v_ret, o_add, o_sub, c_lt, c_le, c_gt, c_ge, a_add, R.bind_ok, R.bind_ex, R.bind_bad, R.st_ok, R.st_ex, R.st_bad, RS.seq_nx, RS.seq_rt, RS.seq_ex, RS.seq_bk, RS.seq_ct, RS.seq_bad, optR_some, optR_none, Tg.set, setAll, asB, Lt.truthy, isNon, biLE, getL_tmp, getM_tmp, Option.isSome_some, reduceIte, if_true, if_false, Bool.false_eq_true, Option.map_some, w0, w1, w2, w3, w4, w5, w6, w7, w8, w9, w10, w11, w12, w13, w14, w15, w16, w17, w18, w19, w20, w21, w22, w23, w24, x0, x1, x2, x3, x4, x5, x6, x7, x8, x9, x10, x11, x12, x13, x14, x15, x16, x17, x18, x19, x20, x21, x22, x23, x24, z0, z1, z2, z3, z4, z5, z6, z7, z8, z9, z10, z11, z12, z13, z14, z15, z16, z17, z18, z19, z20, z21, z22, z23, z24, y0, y1, y2, y3, y4, y5, y6, y7, y8, y9, y10, y11, y12, y13, y14, y15, y16, y17, y18, y19, y20, y21, y22, y23, y24, b7_8, q1]) (rng 0 d) [] H h.tape (by simp [rng]; omega)
  rw [List.nil_append] at h1
  refine ⟨xs, _, h1, h.take h2, ?_⟩
  rw [h3]
  simp [rng]
theorem sum_law (hw : H[wr]? = some (.lst (w.map Dd.e))) (hf : w.length ≤ 1000) (hr : ∀ d ∈ w, d.r.length ≤ 50) : ∃ J, lcS (some wr) (w.map Dd.e) (.tup [⟨20, "kind", ⟨204, 93, 204, 97⟩⟩, ⟨21, "own", ⟨204, 99, 204, 102⟩⟩, ⟨10, "place", ⟨204, 104, 204, 109⟩⟩, ⟨12, "row", ⟨204, 111, 204, 114⟩⟩] 0 ⟨204, 93, 204, 114⟩) sYes (b7_7.ev (Pn 12)) [s0, s1, s2, s3, s4, s5, s6, s7, s8, s9, none, s11, none, s13, s14, s15, s16, s17, none, s19, none, none] (w.map Dd.e) [] H = .ok (w.map fun d => E.int (cnt1 d : Int)) (H ++ J) := by
  have key : ∀ (d : { d : Dd // d ∈ w }) (J : Hq), ∃ ρ1 J2, (Tg.tup [⟨20, "kind", ⟨204, 93, 204, 97⟩⟩, ⟨21, "own", ⟨204, 99, 204, 102⟩⟩, ⟨10, "place", ⟨204, 104, 204, 109⟩⟩, ⟨12, "row", ⟨204, 111, 204, 114⟩⟩] 0 ⟨204, 93, 204, 114⟩).set d.1.e [s0, s1, s2, s3, s4, s5, s6, s7, s8, s9, none, s11, none, s13, s14, s15, s16, s17, none, s19, none, none] = some ρ1 ∧ b7_7.ev (Pn 12) ρ1 (H ++ J) = .ok (.int (cnt1 d.1 : Int)) (H ++ J ++ J2) := by
    rintro ⟨⟨kd, n, p, r⟩, hd⟩ J
    refine ⟨[s0, s1, s2, s3, s4, s5, s6, s7, s8, s9, some (.int (p : Int)), s11, some (.tup (nats r)), s13, s14, s15, s16, s17, none, s19, some (.str kd.s), some (.str n)], ?_⟩
    have hrr := hr _ hd
    cases kd with
    | wr =>
      have c := pieces_ok (k := 11) (H := H ++ J) (p := p) (r := r) (by dsimp only at hrr; omega)
      have c : (Pn 12).cl 0 [.int (p : Int), .tup (nats r)] (H ++ J) = _ := c
      have hl : lenE (H ++ J ++ [.lst ((pcs p r 0).map pe)]) (.ref (H ++ J).length) = some (pcs p r 0).length := by
        rw [len_lst (xs := (pcs p r 0).map pe) get_new, List.length_map]
      have kk : decide (Kd.wr.s = ("write" : Str)) = true := by decide +kernel
      refine ⟨[.lst ((pcs p r 0).map pe)], rfl, ?_⟩
      simp -implicitDefEqProofs only [Stms.ev, Stm.ev, Ex.ev, Ex.evT, Exs.ev, Exs.evAnd, Exs.evOr, Exs.evTAnd, Exs.evTOr, Ox.ev, Ox.evT, Lx.ev, It.ev, v_c, v_bin, v_cmp, v_bl, v_isN, v_ntN, v_not, v_tru, v_asB, v_and, v_or, v_if, v_tup, v_nil, v_cons, v_sub, v_onone, v_osome, v_slice, v_call, v_glb, v_ofE, v_disp, v_cat, v_bi1, v_biL, v_isi, v_inS, v_sidx, v_join, v_subL, v_new, v_dct, v_lenSet, v_attr, v_meth, v_nox, v_dct0, v_dcp, v_dget, v_dpop, v_chain, v_tupE, v_min2, v_listT, v_sortS, v_neL, strE, refE, q_v_setI, q_v_setA, q_v_augA, q_v_parA, v_yes, v_itL, v_itA, v_itR1, v_itR2, v_lc, q_v_asg, q_v_par, q_v_setD, q_v_expr, q_v_app, q_v_if, q_v_for, q_v_ret, o_add, o_sub, c_lt, c_le, c_gt, c_ge, a_add, R.bind_ok, R.bind_ex, R.bind_bad, R.st_ok, R.st_ex, R.st_bad, RS.seq_nx, RS.seq_rt, RS.seq_ex, RS.seq_bk, RS.seq_ct, RS.seq_bad, optR_some, optR_none, Tg.set, setAll, asB, Lt.truthy, isNon, biLE, getL_tmp, getM_tmp, Option.isSome_some, reduceIte, if_true, if_false, Bool.false_eq_true, Option.map_some, w0, w1, w2, w3, w4, w5, w6, w7, w8, w9, w10, w11, w12, w13, w14, w15, w16, w17, w18, w19, w20, w21, w22, w23, w24, x0, x1, x2, x3, x4, x5, x6, x7, x8, x9, x10, x11, x12, x13, x14, x15, x16, x17, x18, x19, x20, x21, x22, x23, x24, z0, z1, z2, z3, z4, z5, z6, z7, z8, z9, z10, z11, z12, z13, z14, z15, z16, z17, z18, z19, z20, z21, z22, z23, z24, y0, y1, y2, y3, y4, y5, y6, y7, y8, y9, y10, y11, y12, y13, y14, y15, y16, y17, y18, y19, y20, y21, y22, y23, y24, b7_7, c_eqS, kk, c, hl, bi1E, cnt1]
    | ct =>
      have kk : decide (Kd.ct.s = ("write" : Str)) = false := by decide +kernel
      refine ⟨[], rfl, ?_⟩
      simp -implicitDefEqProofs only [Stms.ev, Stm.ev, Ex.ev, Ex.evT, Exs.ev, Exs.evAnd, Exs.evOr, Exs.evTAnd, Exs.evTOr, Ox.ev, Ox.evT, Lx.ev, It.ev, v_c, v_bin, v_cmp, v_bl, v_isN, v_ntN, v_not, v_tru, v_asB, v_and, v_or, v_if, v_tup, v_nil, v_cons, v_sub, v_onone, v_osome, v_slice, v_call, v_glb, v_ofE, v_disp, v_cat, v_bi1, v_biL, v_isi, v_inS, v_sidx, v_join, v_subL, v_new, v_dct, v_lenSet, v_attr, v_meth, v_nox, v_dct0, v_dcp, v_dget, v_dpop, v_chain, v_tupE, v_min2, v_listT, v_sortS, v_neL, strE, refE, q_v_setI, q_v_setA, q_v_augA, q_v_parA, v_yes, v_itL, v_itA, v_itR1, v_itR2, v_lc, q_v_asg, q_v_par, q_v_setD, q_v_expr, q_v_app, q_v_if, q_v_for, q_v_ret, o_add, o_sub, c_lt, c_le, c_gt, c_ge, a_add, R.bind_ok, R.bind_ex, R.bind_bad, R.st_ok, R.st_ex, R.st_bad, RS.seq_nx, RS.seq_rt, RS.seq_ex, RS.seq_bk, RS.seq_ct, RS.seq_bad, optR_some, optR_none, Tg.set, setAll, asB, Lt.truthy, isNon, biLE, getL_tmp, getM_tmp, Option.isSome_some, reduceIte, if_true, if_false, Bool.false_eq_true, Option.map_some, w0, w1, w2, w3, w4, w5, w6, w7, w8, w9, w10, w11, w12, w13, w14, w15, w16, w17, w18, w19, w20, w21, w22, w23, w24, x0, x1, x2, x3, x4, x5, x6, x7, x8, x9, x10, x11, x12, x13, x14, x15, x16, x17, x18, x19, x20, x21, x22, x23, x24, z0, z1, z2, z3, z4, z5, z6, z7, z8, z9, z10, z11, z12, z13, z14, z15, z16, z17, z18, z19, z20, z21, z22, z23, z24, y0, y1, y2, y3, y4, y5, y6, y7, y8, y9, y10, y11, y12, y13, y14, y15, y16, y17, y18, y19, y20, y21, y22, y23, y24, b7_7, c_eqS, kk, cnt1, List.append_nil]
      rfl
    | rm =>
      have kk : decide (Kd.rm.s = ("write" : Str)) = false := by decide +kernel
      refine ⟨[], rfl, ?_⟩
      simp -implicitDefEqProofs only [Stms.ev, Stm.ev, Ex.ev, Ex.evT, Exs.ev, Exs.evAnd, Exs.evOr, Exs.evTAnd, Exs.evTOr, Ox.ev, Ox.evT, Lx.ev, It.ev, v_c, v_bin, v_cmp, v_bl, v_isN, v_ntN, v_not, v_tru, v_asB, v_and, v_or, v_if, v_tup, v_nil, v_cons, v_sub, v_onone, v_osome, v_slice, v_call, v_glb, v_ofE, v_disp, v_cat, v_bi1, v_biL, v_isi, v_inS, v_sidx, v_join, v_subL, v_new, v_dct, v_lenSet, v_attr, v_meth, v_nox, v_dct0, v_dcp, v_dget, v_dpop, v_chain, v_tupE, v_min2, v_listT, v_sortS, v_neL, strE, refE, q_v_setI, q_v_setA, q_v_augA, q_v_parA, v_yes, v_itL, v_itA, v_itR1, v_itR2, v_lc, q_v_asg, q_v_par, q_v_setD, q_v_expr, q_v_app, q_v_if, q_v_for, q_v_ret, o_add, o_sub, c_lt, c_le, c_gt, c_ge, a_add, R.bind_ok, R.bind_ex, R.bind_bad, R.st_ok, R.st_ex, R.st_bad, RS.seq_nx, RS.seq_rt, RS.seq_ex, RS.seq_bk, RS.seq_ct, RS.seq_bad, optR_some, optR_none, Tg.set, setAll, asB, Lt.truthy, isNon, biLE, getL_tmp, getM_tmp, Option.isSome_some, reduceIte, if_true, if_false, Bool.false_eq_true, Option.map_some, w0, w1, w2, w3, w4, w5, w6, w7, w8, w9, w10, w11, w12, w13, w14, w15, w16, w17, w18, w19, w20, w21, w22, w23, w24, x0, x1, x2, x3, x4, x5, x6, x7, x8, x9, x10, x11, x12, x13, x14, x15, x16, x17, x18, x19, x20, x21, x22, x23, x24, z0, z1, z2, z3, z4, z5, z6, z7, z8, z9, z10, z11, z12, z13, z14, z15, z16, z17, z18, z19, z20, z21, z22, z23, z24, y0, y1, y2, y3, y4, y5, y6, y7, y8, y9, y10, y11, y12, y13, y14, y15, y16, y17, y18, y19, y20, y21, y22, y23, y24, b7_7, c_eqS, kk, cnt1, List.append_nil]
      rfl
  obtain ⟨J2, hlc⟩ := lc_grow (st := some wr) (all := w.map Dd.e) (g := fun d : { d : Dd // d ∈ w } => d.1.e) (h := fun d => E.int (cnt1 d.1 : Int)) (H := H) (fun J => stays_at (get_app hw)) key w.attach [] [] (by simp; omega)
  rw [List.append_nil, List.nil_append] at hlc
  have m1 : (w.attach.map fun d : { d : Dd // d ∈ w } => d.1.e) = w.map Dd.e := by
    rw [← List.attach_map_val (f := Dd.e)]
  have m2 : (w.attach.map fun d : { d : Dd // d ∈ w } => E.int (cnt1 d.1 : Int)) = w.map fun d => E.int (cnt1 d : Int) := by
    rw [← List.attach_map_val (f := fun d => E.int (cnt1 d : Int))]
  rw [m1, m2] at hlc
  exact ⟨J2, hlc⟩
theorem blk_lose (h : Hp H D fd wr wd s kept now w) (hP : Pl kept now w t) (ht : t ≤ 40) :
    Aft (t + 1) D s0 s5 (some (.str n)) s7 s8 s9 s11 s14 s15 s16 s18 s19 s20 s21 (qb3.ev (Pn 12) [s0, some (.ref 2), some (.ref fd), some (.ref wr), some (.int s), s5, some (.str n), s7, s8, s9, s10, s11, s12, s13, s14, s15, s16, some (.ref D), s18, s19, s20, s21] H) := by
  have hfew := hP.few
  have hrr : ∀ d ∈ w, d.r.length ≤ 50 := fun d hd => (hP.own d hd).2
  obtain ⟨c, H1, e1, h1, hc⟩ := h.tk (m := 12) (by omega) (by omega)
  have e1 : (Pn 12).cl 3 [.ref 2, .int 12] H = _ := e1
  obtain ⟨ps, H2, e2, h2, hr1⟩ := pick_take (s0 := s0) (s2 := some (.ref fd)) (s3 := some (.ref wr)) (s4 := some (.int s)) (s5 := s5) (s6 := some (.str n)) (s7 := s7) (s8 := s8) (s9 := s9) (s10 := s10) (s12 := s12) (s13 := s13) (s14 := s14) (s15 := s15) (s16 := s16) (s17 := some (.ref D)) (s19 := s19) (s20 := s20) (s21 := s21) h1 c (by omega)
  have hin : in62 (c : Int) = true := in62_nat (by omega)
  obtain ⟨kd, nd, hd⟩ := h2.disk.ex
  have m1 := me_waits (k := 12) hd.at_
  have e3 : (Pn 12).cl 21 [.ref D] H2 = .ok (.int ((w.map fun d => (cnt1 d : Int)).sum)) H2 := waits_ok (k := 10) hd (by omega) hrr
  have it1 := it_at h2.wai
  obtain ⟨J, e4⟩ := sum_law (s0 := s0) (s1 := some (.ref 2)) (s2 := some (.ref fd)) (s3 := some (.ref wr)) (s4 := some (.int s)) (s5 := s5) (s6 := some (.str n)) (s7 := s7) (s8 := s8) (s9 := s9) (s11 := s11) (s13 := some (.tup (nats ps))) (s14 := s14) (s15 := s15) (s16 := s16) (s17 := some (.ref D)) (s19 := s19) h2.wai (by omega) hrr
  have as := asIs_map cnt1 w
  have same : decide ((w.map fun d => (cnt1 d : Int)).sum = (w.map fun d => (cnt1 d : Int)).sum) = true := decide_eq_true rfl
  have h3 : Hp (H2 ++ J) D fd wr wd s kept now w := h2.app
  obtain ⟨f2, J2, e5, hf2⟩ := law_lost_ok (k := 10) (ps := ps) h3.fil h3.wai hP.gk' hP.own4 (by omega)
  have e5 : (Pn 12).cl 6 [.ref fd, .ref wr, .tup (nats ps)] (H2 ++ J) = _ := e5
  have h4 : Hp (H2 ++ J ++ J2 ++ [Ob.lst []]) D fd wr wd s kept now w := h3.app.app
  have hL : (H2 ++ J ++ J2 ++ [Ob.lst []])[(H2 ++ J ++ J2).length]? = some (.lst []) := get_new
  obtain ⟨kd4, nd4, hd4⟩ := h4.disk.ex
  obtain ⟨H5, kd5, nd5, wd5, e6, hd5, hF, hw5⟩ := lose_ok (k := 10) (ps := ps) hd4 hP.gk' hP.own4 (by omega)
  have e6 : (Pn 12).cl 20 [.ref D, .tup (nats ps)] (H2 ++ J ++ J2 ++ [Ob.lst []]) = .ok .non H5 := e6
  have m2 := me_lose (k := 12) hd4.at_
  have e : qb3.ev (Pn 12) [s0, some (.ref 2), some (.ref fd), some (.ref wr), some (.int s), s5, some (.str n), s7, s8, s9, s10, s11, s12, s13, s14, s15, s16, some (.ref D), s18, s19, s20, s21] H = .nx [s0, some (.ref 2), some (.ref f2), some (.ref (H2 ++ J ++ J2).length), some (.int s), s5, some (.str n), s7, s8, s9, s10, s11, s12, some (.tup (nats ps)), s14, s15, s16, some (.ref D), s18, s19, s20, s21] H5 := by
    simp -implicitDefEqProofs only [Stms.ev, Stm.ev, Ex.ev, Ex.evT, Exs.ev, Exs.evAnd, Exs.evOr, Exs.evTAnd, Exs.evTOr, Ox.ev, Ox.evT, Lx.ev, It.ev, v_c, v_bin, v_cmp, v_bl, v_isN, v_ntN, v_not, v_tru, v_asB, v_and, v_or, v_if, v_tup, v_nil, v_cons, v_sub, v_onone, v_osome, v_slice, v_call, v_glb, v_ofE, v_disp, v_cat, v_bi1, v_biL, v_isi, v_inS, v_sidx, v_join, v_subL, v_new, v_dct, v_lenSet, v_attr, v_meth, v_nox, v_dct0, v_dcp, v_dget, v_dpop, v_chain, v_tupE, v_min2, v_listT, v_sortS, v_neL, strE, refE, q_v_setI, q_v_setA, q_v_augA, q_v_parA, v_yes, v_itL, v_itA, v_itR1, v_itR2, v_lc, q_v_asg, q_v_par, q_v_setD, q_v_expr, q_v_app, q_v_if, q_v_for, q_v_ret, o_add, o_sub, c_lt, c_le, c_gt, c_ge, a_add, R.bind_ok, R.bind_ex, R.bind_bad, R.st_ok, R.st_ex, R.st_bad, RS.seq_nx, RS.seq_rt, RS.seq_ex, RS.seq_bk, RS.seq_ct, RS.seq_bad, optR_some, optR_none, Tg.set, setAll, asB, Lt.truthy, isNon, biLE, getL_tmp, getM_tmp, Option.isSome_some, reduceIte, if_true, if_false, Bool.false_eq_true, Option.map_some, w0, w1, w2, w3, w4, w5, w6, w7, w8, w9, w10, w11, w12, w13, w14, w15, w16, w17, w18, w19, w20, w21, w22, w23, w24, x0, x1, x2, x3, x4, x5, x6, x7, x8, x9, x10, x11, x12, x13, x14, x15, x16, x17, x18, x19, x20, x21, x22, x23, x24, z0, z1, z2, z3, z4, z5, z6, z7, z8, z9, z10, z11, z12, z13, z14, z15, z16, z17, z18, z19, z20, z21, z22, z23, z24, y0, y1, y2, y3, y4, y5, y6, y7, y8, y9, y10, y11, y12, y13, y14, y15, y16, y17, y18, y19, y20, y21, y22, y23, y24, qb3, e1, intE, hin, Int.toNat_natCast, wipeR, List.map_cons, List.map_nil, e2, m1, ar0, e3, it1, e4, biLE, as, c_neI, decide_true, Bool.not_true, e5, ln0, ln2, m2, ar1, e6]
  have hl := h4.lt
  have hl2 := (List.getElem?_eq_some_iff.mp (h2.app (J := J)).wai).1
  have hl3 := (List.getElem?_eq_some_iff.mp h3.disk.ex.choose_spec.choose_spec.wait).1
  have hlen : (H2 ++ J).length ≤ (H2 ++ J ++ J2).length := by rw [List.length_append (as := H2 ++ J)]; omega
  have hlen2 : (H2 ++ J ++ J2 ++ [Ob.lst []]).length = (H2 ++ J ++ J2).length + 1 := by rw [List.length_append]; rfl
  obtain ⟨q1, _, _⟩ := h4.fr hF
  have g2 : (H2 ++ J ++ J2 ++ [Ob.lst []])[f2]? = some (.dct (fe (lost ps w kept))) := get_app hf2
  refine ⟨H5, f2, (H2 ++ J ++ J2).length, wd5, s, lost ps w kept, lost ps w kept, [], s10, s12, some (.tup (nats ps)), e, ⟨q1, ⟨kd5, nd5, hd5⟩, ?_, ?_, by omega, by omega⟩, hP.lose ps⟩
  · exact hF.at g2 (dct_ne hd4.at_ g2) (ld_ne g2 hd4.wait)
  · exact hF.at hL (lst_ne hd4.at_ hL) (by omega)
end
end K02
end
section
set_option Elab.async false
set_option linter.all false
set_option maxRecDepth 100000
set_option maxHeartbeats 1000000
/-! k02: a turn. -/
namespace K02
open PySem Lt
theorem ln3 (a b c : E) : ([a, b, c].length ≤ sizeLine) = True := eq_true (le_line (by simp))
theorem dats_strs : ∀ ks : List Str, ∃ ds, E.dats (ks.map E.str) = some ds ∧ E.deps (ks.map E.str) = 0
  | [] => ⟨[], rfl, rfl⟩
  | a :: l => by
    obtain ⟨ds, h1, h2⟩ := dats_strs l
    refine ⟨PyData.str a :: ds, ?_, ?_⟩
    · show (match (E.str a).dat, E.dats (l.map E.str) with | some d, some ds => some (d :: ds) | _, _ => none) = _
      rw [h1]
      rfl
    · show max 0 (E.deps (l.map E.str)) = 0
      rw [h2]
      rfl
theorem ne_keys (ks : List Str) : neLE (ks.map E.str) (ks.map E.str) = some false := by
  obtain ⟨ds, h1, h2⟩ := dats_strs ks
  unfold neLE
  rw [h1]
  simp only []
  rw [if_pos (.inl (by show PyData.depthAll ds + 1 ≤ 64; rw [deps_dat h1, h2]; omega)), show PyData.eqv (.list ds) (.list ds) = true from eqvs_self h1]
  rfl
theorem ne_nats (l : List Nat) : cmpop .ne (.tup (nats l)) (.tup (nats l)) = some false := ne_self (dat_nats l) (by show E.deps (nats l) + 1 ≤ 64; rw [deps_nats]; omega)
theorem Hp.up {H H' : Hq} {D fd wr wd : Nat} {s : Int} {kept now : Fl} {w : List Dd} (h : Hp H D fd wr wd s kept now w) (hU : Up H H') : Hp H' D fd wr wd s kept now w := by
  obtain ⟨kd, nd, hd⟩ := h.disk.ex
  have hT := h.tape.lt
  exact ⟨h.tape.keep (hU.2 2 hT.1) (hU.2 1 hT.2), ⟨kd, nd, hU.at hd.at_, hU.at hd.kept, hU.at hd.now, hU.at hd.wait⟩, hU.at h.fil, hU.at h.wai, h.ne1, h.new⟩
section
variable {H : Hq} {D fd wr wd t : Nat} {s : Int} {kept now : Fl} {w : List Dd} {n : Str}
variable {s0 s1 s2 s3 s4 s5 s6 s7 s8 s9 s10 s11 s12 s13 s14 s15 s16 s17 s18 s19 s20 s21 : Option E}
theorem pick_name {d : Nat} (h : d < 3) : ∃ n, n ∈ names3 ∧ L2.atI [E.str "a", E.str "b", E.str "c"] (d : Int) = some (.str n) := by
  match d, h with
  | 0, _ => exact ⟨"a", by simp [names3], atI_nat (j := 0) rfl⟩
  | 1, _ => exact ⟨"b", by simp [names3], atI_nat (j := 1) rfl⟩
  | 2, _ => exact ⟨"c", by simp [names3], atI_nat (j := 2) rfl⟩
theorem turn_deed (h : Hp H D fd wr wd s kept now w) (hP : Pl kept now w t) (ht : t ≤ 40) (hn : n ∈ names3) {x : Nat} (hx : x < 10) :
    Aft (t + 1) D s0 s5 (some (.str n)) (some (.int (x : Int))) s8 (some (.int ((getF now n).length : Int))) s11 s14 s15 s16 s18 s19 s20 s21 (qi0.ev (Pn 12) [s0, some (.ref 2), some (.ref fd), some (.ref wr), some (.int s), s5, some (.str n), some (.int (x : Int)), s8, some (.int ((getF now n).length : Int)), s10, s11, s12, s13, s14, s15, s16, some (.ref D), s18, s19, s20, s21] H) := by
  by_cases h1 : x < 5
  · have d1 : decide ((x : Int) < 5) = true := decide_eq_true (by omega)
    have e : qi0.ev (Pn 12) [s0, some (.ref 2), some (.ref fd), some (.ref wr), some (.int s), s5, some (.str n), some (.int (x : Int)), s8, some (.int ((getF now n).length : Int)), s10, s11, s12, s13, s14, s15, s16, some (.ref D), s18, s19, s20, s21] H = qa0.ev (Pn 12) [s0, some (.ref 2), some (.ref fd), some (.ref wr), some (.int s), s5, some (.str n), some (.int (x : Int)), s8, some (.int ((getF now n).length : Int)), s10, s11, s12, s13, s14, s15, s16, some (.ref D), s18, s19, s20, s21] H := by
      simp -implicitDefEqProofs only [Stms.ev, Stm.ev, Ex.ev, Ex.evT, Exs.ev, Exs.evAnd, Exs.evOr, Exs.evTAnd, Exs.evTOr, Ox.ev, Ox.evT, Lx.ev, It.ev, v_c, v_bin, v_cmp, v_bl, v_isN, v_ntN, v_not, v_tru, v_asB, v_and, v_or, v_if, v_tup, v_nil, v_cons, v_sub, v_onone, v_osome, v_slice, v_call, v_glb, v_ofE, v_disp, v_cat, v_bi1, v_biL, v_isi, v_inS, v_sidx, v_join, v_subL, v_new, v_dct, v_lenSet, v_attr, v_meth, v_nox, v_dct0, v_dcp, v_dget, v_dpop, v_chain, v_tupE, v_min2, v_listT, v_sortS, v_neL, strE, refE, q_v_setI, q_v_setA, q_v_augA, q_v_parA, v_yes, v_itL, v_itA, v_itR1, v_itR2, v_lc, q_v_asg, q_v_par, q_v_setD, q_v_expr, q_v_app, q_v_if, q_v_for, q_v_ret, o_add, o_sub, c_lt, c_le, c_gt, c_ge, a_add, R.bind_ok, R.bind_ex, R.bind_bad, R.st_ok, R.st_ex, R.st_bad, RS.seq_nx, RS.seq_rt, RS.seq_ex, RS.seq_bk, RS.seq_ct, RS.seq_bad, optR_some, optR_none, Tg.set, setAll, asB, Lt.truthy, isNon, biLE, getL_tmp, getM_tmp, Option.isSome_some, reduceIte, if_true, if_false, Bool.false_eq_true, Option.map_some, w0, w1, w2, w3, w4, w5, w6, w7, w8, w9, w10, w11, w12, w13, w14, w15, w16, w17, w18, w19, w20, w21, w22, w23, w24, x0, x1, x2, x3, x4, x5, x6, x7, x8, x9, x10, x11, x12, x13, x14, x15, x16, x17, x18, x19, x20, x21, x22, x23, x24, z0, z1, z2, z3, z4, z5, z6, z7, z8, z9, z10, z11, z12, z13, z14, z15, z16, z17, z18, z19, z20, z21, z22, z23, z24, y0, y1, y2, y3, y4, y5, y6, y7, y8, y9, y10, y11, y12, y13, y14, y15, y16, y17, y18, y19, y20, y21, y22, y23, y24, qi0, d1]
    rw [e]
    exact blk_write h hP ht hn
  · have d1 : decide ((x : Int) < 5) = false := decide_eq_false (by omega)
    have q1 : ∀ r : RS, r.seq (fun ρ G => RS.nx ρ G) = r := fun r => by cases r <;> rfl
    by_cases h2 : x = 5
    · have d2 : decide ((x : Int) = 5) = true := decide_eq_true (by omega)
      have e : qi0.ev (Pn 12) [s0, some (.ref 2), some (.ref fd), some (.ref wr), some (.int s), s5, some (.str n), some (.int (x : Int)), s8, some (.int ((getF now n).length : Int)), s10, s11, s12, s13, s14, s15, s16, some (.ref D), s18, s19, s20, s21] H = qa1.ev (Pn 12) [s0, some (.ref 2), some (.ref fd), some (.ref wr), some (.int s), s5, some (.str n), some (.int (x : Int)), s8, some (.int ((getF now n).length : Int)), s10, s11, s12, s13, s14, s15, s16, some (.ref D), s18, s19, s20, s21] H := by
        simp -implicitDefEqProofs only [Stms.ev, Stm.ev, Ex.ev, Ex.evT, Exs.ev, Exs.evAnd, Exs.evOr, Exs.evTAnd, Exs.evTOr, Ox.ev, Ox.evT, Lx.ev, It.ev, v_c, v_bin, v_cmp, v_bl, v_isN, v_ntN, v_not, v_tru, v_asB, v_and, v_or, v_if, v_tup, v_nil, v_cons, v_sub, v_onone, v_osome, v_slice, v_call, v_glb, v_ofE, v_disp, v_cat, v_bi1, v_biL, v_isi, v_inS, v_sidx, v_join, v_subL, v_new, v_dct, v_lenSet, v_attr, v_meth, v_nox, v_dct0, v_dcp, v_dget, v_dpop, v_chain, v_tupE, v_min2, v_listT, v_sortS, v_neL, strE, refE, q_v_setI, q_v_setA, q_v_augA, q_v_parA, v_yes, v_itL, v_itA, v_itR1, v_itR2, v_lc, q_v_asg, q_v_par, q_v_setD, q_v_expr, q_v_app, q_v_if, q_v_for, q_v_ret, o_add, o_sub, c_lt, c_le, c_gt, c_ge, a_add, R.bind_ok, R.bind_ex, R.bind_bad, R.st_ok, R.st_ex, R.st_bad, RS.seq_nx, RS.seq_rt, RS.seq_ex, RS.seq_bk, RS.seq_ct, RS.seq_bad, optR_some, optR_none, Tg.set, setAll, asB, Lt.truthy, isNon, biLE, getL_tmp, getM_tmp, Option.isSome_some, reduceIte, if_true, if_false, Bool.false_eq_true, Option.map_some, w0, w1, w2, w3, w4, w5, w6, w7, w8, w9, w10, w11, w12, w13, w14, w15, w16, w17, w18, w19, w20, w21, w22, w23, w24, x0, x1, x2, x3, x4, x5, x6, x7, x8, x9, x10, x11, x12, x13, x14, x15, x16, x17, x18, x19, x20, x21, x22, x23, x24, z0, z1, z2, z3, z4, z5, z6, z7, z8, z9, z10, z11, z12, z13, z14, z15, z16, z17, z18, z19, z20, z21, z22, z23, z24, y0, y1, y2, y3, y4, y5, y6, y7, y8, y9, y10, y11, y12, y13, y14, y15, y16, y17, y18, y19, y20, y21, y22, y23, y24, qi0, qi1, d1, c_eqI, d2, q1]
      rw [e]
      exact blk_cut h hP ht hn
    · have d2 : decide ((x : Int) = 5) = false := decide_eq_false (by omega)
      by_cases h3 : x = 6
      · have d3 : decide ((x : Int) = 6) = true := decide_eq_true (by omega)
        have e : qi0.ev (Pn 12) [s0, some (.ref 2), some (.ref fd), some (.ref wr), some (.int s), s5, some (.str n), some (.int (x : Int)), s8, some (.int ((getF now n).length : Int)), s10, s11, s12, s13, s14, s15, s16, some (.ref D), s18, s19, s20, s21] H = qa2.ev (Pn 12) [s0, some (.ref 2), some (.ref fd), some (.ref wr), some (.int s), s5, some (.str n), some (.int (x : Int)), s8, some (.int ((getF now n).length : Int)), s10, s11, s12, s13, s14, s15, s16, some (.ref D), s18, s19, s20, s21] H := by
          simp -implicitDefEqProofs only [Stms.ev, Stm.ev, Ex.ev, Ex.evT, Exs.ev, Exs.evAnd, Exs.evOr, Exs.evTAnd, Exs.evTOr, Ox.ev, Ox.evT, Lx.ev, It.ev, v_c, v_bin, v_cmp, v_bl, v_isN, v_ntN, v_not, v_tru, v_asB, v_and, v_or, v_if, v_tup, v_nil, v_cons, v_sub, v_onone, v_osome, v_slice, v_call, v_glb, v_ofE, v_disp, v_cat, v_bi1, v_biL, v_isi, v_inS, v_sidx, v_join, v_subL, v_new, v_dct, v_lenSet, v_attr, v_meth, v_nox, v_dct0, v_dcp, v_dget, v_dpop, v_chain, v_tupE, v_min2, v_listT, v_sortS, v_neL, strE, refE, q_v_setI, q_v_setA, q_v_augA, q_v_parA, v_yes, v_itL, v_itA, v_itR1, v_itR2, v_lc, q_v_asg, q_v_par, q_v_setD, q_v_expr, q_v_app, q_v_if, q_v_for, q_v_ret, o_add, o_sub, c_lt, c_le, c_gt, c_ge, a_add, R.bind_ok, R.bind_ex, R.bind_bad, R.st_ok, R.st_ex, R.st_bad, RS.seq_nx, RS.seq_rt, RS.seq_ex, RS.seq_bk, RS.seq_ct, RS.seq_bad, optR_some, optR_none, Tg.set, setAll, asB, Lt.truthy, isNon, biLE, getL_tmp, getM_tmp, Option.isSome_some, reduceIte, if_true, if_false, Bool.false_eq_true, Option.map_some, w0, w1, w2, w3, w4, w5, w6, w7, w8, w9, w10, w11, w12, w13, w14, w15, w16, w17, w18, w19, w20, w21, w22, w23, w24, x0, x1, x2, x3, x4, x5, x6, x7, x8, x9, x10, x11, x12, x13, x14, x15, x16, x17, x18, x19, x20, x21, x22, x23, x24, z0, z1, z2, z3, z4, z5, z6, z7, z8, z9, z10, z11, z12, z13, z14, z15, z16, z17, z18, z19, z20, z21, z22, z23, z24, y0, y1, y2, y3, y4, y5, y6, y7, y8, y9, y10, y11, y12, y13, y14, y15, y16, y17, y18, y19, y20, y21, y22, y23, y24, qi0, qi1, qi2, d1, c_eqI, d2, d3, q1]
        rw [e]
        exact blk_remove h hP ht hn
      · have d3 : decide ((x : Int) = 6) = false := decide_eq_false (by omega)
        by_cases h4 : x < 9
        · have d4 : decide ((x : Int) < 9) = true := decide_eq_true (by omega)
          have e : qi0.ev (Pn 12) [s0, some (.ref 2), some (.ref fd), some (.ref wr), some (.int s), s5, some (.str n), some (.int (x : Int)), s8, some (.int ((getF now n).length : Int)), s10, s11, s12, s13, s14, s15, s16, some (.ref D), s18, s19, s20, s21] H = qa3.ev (Pn 12) [s0, some (.ref 2), some (.ref fd), some (.ref wr), some (.int s), s5, some (.str n), some (.int (x : Int)), s8, some (.int ((getF now n).length : Int)), s10, s11, s12, s13, s14, s15, s16, some (.ref D), s18, s19, s20, s21] H := by
            simp -implicitDefEqProofs only [Stms.ev, Stm.ev, Ex.ev, Ex.evT, Exs.ev, Exs.evAnd, Exs.evOr, Exs.evTAnd, Exs.evTOr, Ox.ev, Ox.evT, Lx.ev, It.ev, v_c, v_bin, v_cmp, v_bl, v_isN, v_ntN, v_not, v_tru, v_asB, v_and, v_or, v_if, v_tup, v_nil, v_cons, v_sub, v_onone, v_osome, v_slice, v_call, v_glb, v_ofE, v_disp, v_cat, v_bi1, v_biL, v_isi, v_inS, v_sidx, v_join, v_subL, v_new, v_dct, v_lenSet, v_attr, v_meth, v_nox, v_dct0, v_dcp, v_dget, v_dpop, v_chain, v_tupE, v_min2, v_listT, v_sortS, v_neL, strE, refE, q_v_setI, q_v_setA, q_v_augA, q_v_parA, v_yes, v_itL, v_itA, v_itR1, v_itR2, v_lc, q_v_asg, q_v_par, q_v_setD, q_v_expr, q_v_app, q_v_if, q_v_for, q_v_ret, o_add, o_sub, c_lt, c_le, c_gt, c_ge, a_add, R.bind_ok, R.bind_ex, R.bind_bad, R.st_ok, R.st_ex, R.st_bad, RS.seq_nx, RS.seq_rt, RS.seq_ex, RS.seq_bk, RS.seq_ct, RS.seq_bad, optR_some, optR_none, Tg.set, setAll, asB, Lt.truthy, isNon, biLE, getL_tmp, getM_tmp, Option.isSome_some, reduceIte, if_true, if_false, Bool.false_eq_true, Option.map_some, w0, w1, w2, w3, w4, w5, w6, w7, w8, w9, w10, w11, w12, w13, w14, w15, w16, w17, w18, w19, w20, w21, w22, w23, w24, x0, x1, x2, x3, x4, x5, x6, x7, x8, x9, x10, x11, x12, x13, x14, x15, x16, x17, x18, x19, x20, x21, x22, x23, x24, z0, z1, z2, z3, z4, z5, z6, z7, z8, z9, z10, z11, z12, z13, z14, z15, z16, z17, z18, z19, z20, z21, z22, z23, z24, y0, y1, y2, y3, y4, y5, y6, y7, y8, y9, y10, y11, y12, y13, y14, y15, y16, y17, y18, y19, y20, y21, y22, y23, y24, qi0, qi1, qi2, qi3, d1, c_eqI, d2, d3, d4, q1]
          rw [e]
          exact blk_sync h hP ht
        · have d4 : decide ((x : Int) < 9) = false := decide_eq_false (by omega)
          have e : qi0.ev (Pn 12) [s0, some (.ref 2), some (.ref fd), some (.ref wr), some (.int s), s5, some (.str n), some (.int (x : Int)), s8, some (.int ((getF now n).length : Int)), s10, s11, s12, s13, s14, s15, s16, some (.ref D), s18, s19, s20, s21] H = qb3.ev (Pn 12) [s0, some (.ref 2), some (.ref fd), some (.ref wr), some (.int s), s5, some (.str n), some (.int (x : Int)), s8, some (.int ((getF now n).length : Int)), s10, s11, s12, s13, s14, s15, s16, some (.ref D), s18, s19, s20, s21] H := by
            simp -implicitDefEqProofs only [Stms.ev, Stm.ev, Ex.ev, Ex.evT, Exs.ev, Exs.evAnd, Exs.evOr, Exs.evTAnd, Exs.evTOr, Ox.ev, Ox.evT, Lx.ev, It.ev, v_c, v_bin, v_cmp, v_bl, v_isN, v_ntN, v_not, v_tru, v_asB, v_and, v_or, v_if, v_tup, v_nil, v_cons, v_sub, v_onone, v_osome, v_slice, v_call, v_glb, v_ofE, v_disp, v_cat, v_bi1, v_biL, v_isi, v_inS, v_sidx, v_join, v_subL, v_new, v_dct, v_lenSet, v_attr, v_meth, v_nox, v_dct0, v_dcp, v_dget, v_dpop, v_chain, v_tupE, v_min2, v_listT, v_sortS, v_neL, strE, refE, q_v_setI, q_v_setA, q_v_augA, q_v_parA, v_yes, v_itL, v_itA, v_itR1, v_itR2, v_lc, q_v_asg, q_v_par, q_v_setD, q_v_expr, q_v_app, q_v_if, q_v_for, q_v_ret, o_add, o_sub, c_lt, c_le, c_gt, c_ge, a_add, R.bind_ok, R.bind_ex, R.bind_bad, R.st_ok, R.st_ex, R.st_bad, RS.seq_nx, RS.seq_rt, RS.seq_ex, RS.seq_bk, RS.seq_ct, RS.seq_bad, optR_some, optR_none, Tg.set, setAll, asB, Lt.truthy, isNon, biLE, getL_tmp, getM_tmp, Option.isSome_some, reduceIte, if_true, if_false, Bool.false_eq_true, Option.map_some, w0, w1, w2, w3, w4, w5, w6, w7, w8, w9, w10, w11, w12, w13, w14, w15, w16, w17, w18, w19, w20, w21, w22, w23, w24, x0, x1, x2, x3, x4, x5, x6, x7, x8, x9, x10, x11, x12, x13, x14, x15, x16, x17, x18, x19, x20, x21, x22, x23, x24, z0, z1, z2, z3, z4, z5, z6, z7, z8, z9, z10, z11, z12, z13, z14, z15, z16, z17, z18, z19, z20, z21, z22, z23, z24, y0, y1, y2, y3, y4, y5, y6, y7, y8, y9, y10, y11, y12, y13, y14, y15, y16, y17, y18, y19, y20, y21, y22, y23, y24, qi0, qi1, qi2, qi3, d1, c_eqI, d2, d3, d4, q1]
          rw [e]
          exact blk_lose h hP ht
theorem see (h : Hp H D fd wr wd s kept now w) (hP : Pl kept now w t) (ht : t ≤ 41) : ∃ f2 J, (Pn 12).cl 5 [.ref fd, .ref wr] H = .ok (.ref f2) (H ++ J) ∧ (H ++ J)[f2]? = some (.dct (fe (w.foldl done kept))) := by
  have hfew := hP.few
  exact law_seen_ok (k := 10) h.fil h.wai hP.gk'.bd (fun d hd => (hP.own d hd).2) (by omega) (by omega)
theorem turn_head (h : Hp H D fd wr wd s kept now w) (hP : Pl kept now w t) (ht : t ≤ 40) : ∃ H' n x u8, n ∈ names3 ∧ x < 10 ∧ Hp H' D fd wr wd s kept now w ∧
    r9_0.ev (Pn 12) [s0, some (.ref 2), some (.ref fd), some (.ref wr), some (.int s), s5, s6, s7, s8, s9, s10, s11, s12, s13, s14, s15, s16, some (.ref D), s18, s19, s20, s21] H = r9_3.ev (Pn 12) [s0, some (.ref 2), some (.ref fd), some (.ref wr), some (.int s), s5, some (.str n), some (.int ((x : Nat) : Int)), u8, some (.int ((getF now n).length : Int)), s10, s11, s12, s13, s14, s15, s16, some (.ref D), s18, s19, s20, s21] H' := by
  obtain ⟨d, H1, e1, h1, hd⟩ := h.tk (m := 3) (by omega) (by omega)
  have e1 : (Pn 12).cl 3 [.ref 2, .int 3] H = _ := e1
  obtain ⟨x, H2, e2, h2, hx⟩ := h1.tk (m := 10) (by omega) (by omega)
  have e2 : (Pn 12).cl 3 [.ref 2, .int 10] H1 = _ := e2
  obtain ⟨n, hn, e3⟩ := pick_name hd
  obtain ⟨f2, J, e4, hf2⟩ := see h2 hP (by omega)
  have hd2 := dct_at hf2
  have g0 : ([] : List E).length ≤ sizeLine := le_line (by simp)
  have gs : getF (w.foldl done kept) n = getF now n := (getF_same hP.eq n).symm
  refine ⟨H2 ++ J, n, x, some (.ref f2), hn, hx, h2.app, ?_⟩
  have a0 : c9_0.ev (Pn 12) [s0, some (.ref 2), some (.ref fd), some (.ref wr), some (.int s), s5, s6, s7, s8, s9, s10, s11, s12, s13, s14, s15, s16, some (.ref D), s18, s19, s20, s21] H = .nx [s0, some (.ref 2), some (.ref fd), some (.ref wr), some (.int s), s5, some (.str n), some (.int ((x : Nat) : Int)), s8, s9, s10, s11, s12, s13, s14, s15, s16, some (.ref D), s18, s19, s20, s21] H2 := by
    simp -implicitDefEqProofs only [Stms.ev, Stm.ev, Ex.ev, Ex.evT, Exs.ev, Exs.evAnd, Exs.evOr, Exs.evTAnd, Exs.evTOr, Ox.ev, Ox.evT, Lx.ev, It.ev, v_c, v_bin, v_cmp, v_bl, v_isN, v_ntN, v_not, v_tru, v_asB, v_and, v_or, v_if, v_tup, v_nil, v_cons, v_sub, v_onone, v_osome, v_slice, v_call, v_glb, v_ofE, v_disp, v_cat, v_bi1, v_biL, v_isi, v_inS, v_sidx, v_join, v_subL, v_new, v_dct, v_lenSet, v_attr, v_meth, v_nox, v_dct0, v_dcp, v_dget, v_dpop, v_chain, v_tupE, v_min2, v_listT, v_sortS, v_neL, strE, refE, q_v_setI, q_v_setA, q_v_augA, q_v_parA, v_yes, v_itL, v_itA, v_itR1, v_itR2, v_lc, q_v_asg, q_v_par, q_v_setD, q_v_expr, q_v_app, q_v_if, q_v_for, q_v_ret, o_add, o_sub, c_lt, c_le, c_gt, c_ge, a_add, R.bind_ok, R.bind_ex, R.bind_bad, R.st_ok, R.st_ex, R.st_bad, RS.seq_nx, RS.seq_rt, RS.seq_ex, RS.seq_bk, RS.seq_ct, RS.seq_bad, optR_some, optR_none, Tg.set, setAll, asB, Lt.truthy, isNon, biLE, getL_tmp, getM_tmp, Option.isSome_some, reduceIte, if_true, if_false, Bool.false_eq_true, Option.map_some, w0, w1, w2, w3, w4, w5, w6, w7, w8, w9, w10, w11, w12, w13, w14, w15, w16, w17, w18, w19, w20, w21, w22, w23, w24, x0, x1, x2, x3, x4, x5, x6, x7, x8, x9, x10, x11, x12, x13, x14, x15, x16, x17, x18, x19, x20, x21, x22, x23, x24, z0, z1, z2, z3, z4, z5, z6, z7, z8, z9, z10, z11, z12, z13, z14, z15, z16, z17, z18, z19, z20, z21, z22, z23, z24, y0, y1, y2, y3, y4, y5, y6, y7, y8, y9, y10, y11, y12, y13, y14, y15, y16, y17, y18, y19, y20, y21, y22, y23, y24, c9_0, e1, ln3, intE, e3, e2, ln2]
  have a1 : c9_1.ev (Pn 12) [s0, some (.ref 2), some (.ref fd), some (.ref wr), some (.int s), s5, some (.str n), some (.int ((x : Nat) : Int)), s8, s9, s10, s11, s12, s13, s14, s15, s16, some (.ref D), s18, s19, s20, s21] H2 = .nx [s0, some (.ref 2), some (.ref fd), some (.ref wr), some (.int s), s5, some (.str n), some (.int ((x : Nat) : Int)), some (.ref f2), s9, s10, s11, s12, s13, s14, s15, s16, some (.ref D), s18, s19, s20, s21] (H2 ++ J) := by
    simp -implicitDefEqProofs only [Stms.ev, Stm.ev, Ex.ev, Ex.evT, Exs.ev, Exs.evAnd, Exs.evOr, Exs.evTAnd, Exs.evTOr, Ox.ev, Ox.evT, Lx.ev, It.ev, v_c, v_bin, v_cmp, v_bl, v_isN, v_ntN, v_not, v_tru, v_asB, v_and, v_or, v_if, v_tup, v_nil, v_cons, v_sub, v_onone, v_osome, v_slice, v_call, v_glb, v_ofE, v_disp, v_cat, v_bi1, v_biL, v_isi, v_inS, v_sidx, v_join, v_subL, v_new, v_dct, v_lenSet, v_attr, v_meth, v_nox, v_dct0, v_dcp, v_dget, v_dpop, v_chain, v_tupE, v_min2, v_listT, v_sortS, v_neL, strE, refE, q_v_setI, q_v_setA, q_v_augA, q_v_parA, v_yes, v_itL, v_itA, v_itR1, v_itR2, v_lc, q_v_asg, q_v_par, q_v_setD, q_v_expr, q_v_app, q_v_if, q_v_for, q_v_ret, o_add, o_sub, c_lt, c_le, c_gt, c_ge, a_add, R.bind_ok, R.bind_ex, R.bind_bad, R.st_ok, R.st_ex, R.st_bad, RS.seq_nx, RS.seq_rt, RS.seq_ex, RS.seq_bk, RS.seq_ct, RS.seq_bad, optR_some, optR_none, Tg.set, setAll, asB, Lt.truthy, isNon, biLE, getL_tmp, getM_tmp, Option.isSome_some, reduceIte, if_true, if_false, Bool.false_eq_true, Option.map_some, w0, w1, w2, w3, w4, w5, w6, w7, w8, w9, w10, w11, w12, w13, w14, w15, w16, w17, w18, w19, w20, w21, w22, w23, w24, x0, x1, x2, x3, x4, x5, x6, x7, x8, x9, x10, x11, x12, x13, x14, x15, x16, x17, x18, x19, x20, x21, x22, x23, x24, z0, z1, z2, z3, z4, z5, z6, z7, z8, z9, z10, z11, z12, z13, z14, z15, z16, z17, z18, z19, z20, z21, z22, z23, z24, y0, y1, y2, y3, y4, y5, y6, y7, y8, y9, y10, y11, y12, y13, y14, y15, y16, y17, y18, y19, y20, y21, y22, y23, y24, c9_1, e4]
  have a2 : c9_2.ev (Pn 12) [s0, some (.ref 2), some (.ref fd), some (.ref wr), some (.int s), s5, some (.str n), some (.int ((x : Nat) : Int)), some (.ref f2), s9, s10, s11, s12, s13, s14, s15, s16, some (.ref D), s18, s19, s20, s21] (H2 ++ J) = .nx [s0, some (.ref 2), some (.ref fd), some (.ref wr), some (.int s), s5, some (.str n), some (.int ((x : Nat) : Int)), some (.ref f2), some (.int ((getF now n).length : Int)), s10, s11, s12, s13, s14, s15, s16, some (.ref D), s18, s19, s20, s21] (H2 ++ J) := by
    simp -implicitDefEqProofs only [Stms.ev, Stm.ev, Ex.ev, Ex.evT, Exs.ev, Exs.evAnd, Exs.evOr, Exs.evTAnd, Exs.evTOr, Ox.ev, Ox.evT, Lx.ev, It.ev, v_c, v_bin, v_cmp, v_bl, v_isN, v_ntN, v_not, v_tru, v_asB, v_and, v_or, v_if, v_tup, v_nil, v_cons, v_sub, v_onone, v_osome, v_slice, v_call, v_glb, v_ofE, v_disp, v_cat, v_bi1, v_biL, v_isi, v_inS, v_sidx, v_join, v_subL, v_new, v_dct, v_lenSet, v_attr, v_meth, v_nox, v_dct0, v_dcp, v_dget, v_dpop, v_chain, v_tupE, v_min2, v_listT, v_sortS, v_neL, strE, refE, q_v_setI, q_v_setA, q_v_augA, q_v_parA, v_yes, v_itL, v_itA, v_itR1, v_itR2, v_lc, q_v_asg, q_v_par, q_v_setD, q_v_expr, q_v_app, q_v_if, q_v_for, q_v_ret, o_add, o_sub, c_lt, c_le, c_gt, c_ge, a_add, R.bind_ok, R.bind_ex, R.bind_bad, R.st_ok, R.st_ex, R.st_bad, RS.seq_nx, RS.seq_rt, RS.seq_ex, RS.seq_bk, RS.seq_ct, RS.seq_bad, optR_some, optR_none, Tg.set, setAll, asB, Lt.truthy, isNon, biLE, getL_tmp, getM_tmp, Option.isSome_some, reduceIte, if_true, if_false, Bool.false_eq_true, Option.map_some, w0, w1, w2, w3, w4, w5, w6, w7, w8, w9, w10, w11, w12, w13, w14, w15, w16, w17, w18, w19, w20, w21, w22, w23, w24, x0, x1, x2, x3, x4, x5, x6, x7, x8, x9, x10, x11, x12, x13, x14, x15, x16, x17, x18, x19, x20, x21, x22, x23, x24, z0, z1, z2, z3, z4, z5, z6, z7, z8, z9, z10, z11, z12, z13, z14, z15, z16, z17, z18, z19, z20, z21, z22, z23, z24, y0, y1, y2, y3, y4, y5, y6, y7, y8, y9, y10, y11, y12, y13, y14, y15, y16, y17, y18, y19, y20, y21, y22, y23, y24, c9_2, hd2, g0, fe_get, gs, len_tup, bi1E]
  rw [r9_at0, a0, RS.seq_nx, r9_at1, a1, RS.seq_nx, r9_at2, a2, RS.seq_nx]
theorem turn_end (h : Hp H D fd wr wd s kept now w) (hP : Pl kept now w t) (ht : t ≤ 41) : ∃ H' u8 u14, Hp H' D fd wr wd s kept now w ∧
    r9_4.ev (Pn 12) [s0, some (.ref 2), some (.ref fd), some (.ref wr), some (.int s), s5, s6, s7, s8, s9, s10, s11, s12, s13, s14, s15, s16, some (.ref D), s18, s19, s20, s21] H = .nx [s0, some (.ref 2), some (.ref fd), some (.ref wr), some (.int s), s5, s6, s7, u8, s9, s10, s11, s12, s13, u14, s15, s16, some (.ref D), s18, s19, s20, s21] H' := by
  obtain ⟨f2, J, e1, hf2⟩ := see h hP ht
  have a4 : c9_4.ev (Pn 12) [s0, some (.ref 2), some (.ref fd), some (.ref wr), some (.int s), s5, s6, s7, s8, s9, s10, s11, s12, s13, s14, s15, s16, some (.ref D), s18, s19, s20, s21] H = .nx [s0, some (.ref 2), some (.ref fd), some (.ref wr), some (.int s), s5, s6, s7, some (.ref f2), s9, s10, s11, s12, s13, s14, s15, s16, some (.ref D), s18, s19, s20, s21] (H ++ J) := by
    simp -implicitDefEqProofs only [Stms.ev, Stm.ev, Ex.ev, Ex.evT, Exs.ev, Exs.evAnd, Exs.evOr, Exs.evTAnd, Exs.evTOr, Ox.ev, Ox.evT, Lx.ev, It.ev, v_c, v_bin, v_cmp, v_bl, v_isN, v_ntN, v_not, v_tru, v_asB, v_and, v_or, v_if, v_tup, v_nil, v_cons, v_sub, v_onone, v_osome, v_slice, v_call, v_glb, v_ofE, v_disp, v_cat, v_bi1, v_biL, v_isi, v_inS, v_sidx, v_join, v_subL, v_new, v_dct, v_lenSet, v_attr, v_meth, v_nox, v_dct0, v_dcp, v_dget, v_dpop, v_chain, v_tupE, v_min2, v_listT, v_sortS, v_neL, strE, refE, q_v_setI, q_v_setA, q_v_augA, q_v_parA, v_yes, v_itL, v_itA, v_itR1, v_itR2, v_lc, q_v_asg, q_v_par, q_v_setD, q_v_expr, q_v_app, q_v_if, q_v_for, q_v_ret, o_add, o_sub, c_lt, c_le, c_gt, c_ge, a_add, R.bind_ok, R.bind_ex, R.bind_bad, R.st_ok, R.st_ex, R.st_bad, RS.seq_nx, RS.seq_rt, RS.seq_ex, RS.seq_bk, RS.seq_ct, RS.seq_bad, optR_some, optR_none, Tg.set, setAll, asB, Lt.truthy, isNon, biLE, getL_tmp, getM_tmp, Option.isSome_some, reduceIte, if_true, if_false, Bool.false_eq_true, Option.map_some, w0, w1, w2, w3, w4, w5, w6, w7, w8, w9, w10, w11, w12, w13, w14, w15, w16, w17, w18, w19, w20, w21, w22, w23, w24, x0, x1, x2, x3, x4, x5, x6, x7, x8, x9, x10, x11, x12, x13, x14, x15, x16, x17, x18, x19, x20, x21, x22, x23, x24, z0, z1, z2, z3, z4, z5, z6, z7, z8, z9, z10, z11, z12, z13, z14, z15, z16, z17, z18, z19, z20, z21, z22, z23, z24, y0, y1, y2, y3, y4, y5, y6, y7, y8, y9, y10, y11, y12, y13, y14, y15, y16, y17, y18, y19, y20, y21, y22, y23, y24, c9_4, e1]
  rw [r9_at4, a4, RS.seq_nx]
  have h1 : Hp (H ++ J) D fd wr wd s kept now w := h.app
  generalize H ++ J = G at h1 hf2
  clear a4 e1
  obtain ⟨kd, nd, hd⟩ := h1.disk.ex
  have m1 := me_names (k := 12) hd.at_
  have c1 : (Pn 12).cl 12 [.ref D] G = .ok (.ref G.length) (G ++ [.lst ((keysOf (fe now)).map E.str)]) := names_ok (k := 11) hd (by have := hP.gn.few; omega)
  have hks : keysOf (fe now) = keysOf (fe (w.foldl done kept)) := keys_same hP.gn.nd hP.seen.nd hP.eq
  have h2 : Hp (G ++ [.lst ((keysOf (fe now)).map E.str)]) D fd wr wd s kept now w := h1.app
  have hf3 : (G ++ [.lst ((keysOf (fe now)).map E.str)])[f2]? = some (.dct (fe (w.foldl done kept))) := get_app hf2
  have gg := getL_new (H := G) (xs := (keysOf (fe now)).map E.str)
  generalize hG2 : G ++ [.lst ((keysOf (fe now)).map E.str)] = G2 at h2 hf3 c1 gg
  obtain ⟨kd2, nd2, hd2⟩ := h2.disk.ex
  have few2 : ((fe (w.foldl done kept)).length < 64) = True := eq_true (by rw [fe_len]; have := hP.seen.few; omega)
  have m2 := me_read (k := 12) hd2.at_
  have m3 := me_size (k := 12) hd2.at_
  have m4 := me_steps (k := 12) hd2.at_
  have c4 : (Pn 12).cl 9 [.ref D] G2 = .ok (.int s) G2 := steps_ok (k := 11) hd2
  have dd := dct_at hf3
  have g0 : ([] : List E).length ≤ sizeLine := le_line (by simp)
  have l1 : lcS none [E.str "a", E.str "b", E.str "c"] (.name ⟨21, "own", ⟨209, 132, 209, 135⟩⟩) sYes (b7_3.ev (Pn 12)) [s0, some (.ref 2), some (.ref fd), some (.ref wr), some (.int s), s5, s6, s7, some (.ref f2), s9, s10, s11, s12, s13, s14, s15, s16, some (.ref D), none, s19, s20, none] [E.str "a", E.str "b", E.str "c"] [] G2 = .ok [.bl false, .bl false, .bl false] G2 :=
    lc_map (H := G2) (g := E.str) (f := fun _ => .bl false) (all := [E.str "a", E.str "b", E.str "c"]) (n := ⟨21, "own", ⟨209, 132, 209, 135⟩⟩) (c := sYes) (e := b7_3.ev (Pn 12)) (fun _ => rfl) ["a", "b", "c"] [] (fun n _ => by
      show b7_3.ev (Pn 12) [s0, some (.ref 2), some (.ref fd), some (.ref wr), some (.int s), s5, s6, s7, some (.ref f2), s9, s10, s11, s12, s13, s14, s15, s16, some (.ref D), none, s19, s20, some (.str n)] G2 = _
      have c2 : (Pn 12).cl 14 [.ref D, .str n] G2 = .ok (.tup (nats (getF now n))) G2 := read_ok (k := 11) hd2
      have c3 : (Pn 12).cl 13 [.ref D, .str n] G2 = .ok (.int ((getF now n).length : Int)) G2 := size_ok (k := 11) hd2
      have gs : getF (w.foldl done kept) n = getF now n := (getF_same hP.eq n).symm
      simp -implicitDefEqProofs only [Stms.ev, Stm.ev, Ex.ev, Ex.evT, Exs.ev, Exs.evAnd, Exs.evOr, Exs.evTAnd, Exs.evTOr, Ox.ev, Ox.evT, Lx.ev, It.ev, v_c, v_bin, v_cmp, v_bl, v_isN, v_ntN, v_not, v_tru, v_asB, v_and, v_or, v_if, v_tup, v_nil, v_cons, v_sub, v_onone, v_osome, v_slice, v_call, v_glb, v_ofE, v_disp, v_cat, v_bi1, v_biL, v_isi, v_inS, v_sidx, v_join, v_subL, v_new, v_dct, v_lenSet, v_attr, v_meth, v_nox, v_dct0, v_dcp, v_dget, v_dpop, v_chain, v_tupE, v_min2, v_listT, v_sortS, v_neL, strE, refE, q_v_setI, q_v_setA, q_v_augA, q_v_parA, v_yes, v_itL, v_itA, v_itR1, v_itR2, v_lc, q_v_asg, q_v_par, q_v_setD, q_v_expr, q_v_app, q_v_if, q_v_for, q_v_ret, o_add, o_sub, c_lt, c_le, c_gt, c_ge, a_add, R.bind_ok, R.bind_ex, R.bind_bad, R.st_ok, R.st_ex, R.st_bad, RS.seq_nx, RS.seq_rt, RS.seq_ex, RS.seq_bk, RS.seq_ct, RS.seq_bad, optR_some, optR_none, Tg.set, setAll, asB, Lt.truthy, isNon, biLE, getL_tmp, getM_tmp, Option.isSome_some, reduceIte, if_true, if_false, Bool.false_eq_true, Option.map_some, w0, w1, w2, w3, w4, w5, w6, w7, w8, w9, w10, w11, w12, w13, w14, w15, w16, w17, w18, w19, w20, w21, w22, w23, w24, x0, x1, x2, x3, x4, x5, x6, x7, x8, x9, x10, x11, x12, x13, x14, x15, x16, x17, x18, x19, x20, x21, x22, x23, x24, z0, z1, z2, z3, z4, z5, z6, z7, z8, z9, z10, z11, z12, z13, z14, z15, z16, z17, z18, z19, z20, z21, z22, z23, z24, y0, y1, y2, y3, y4, y5, y6, y7, y8, y9, y10, y11, y12, y13, y14, y15, y16, y17, y18, y19, y20, y21, y22, y23, y24, b7_3, m2, ar1, c2, dd, g0, fe_get, gs, ne_nats, m3, c3, len_tup, bi1E, c_neI, decide_true, Bool.not_true]) (by simp)
  have it : itE G2 (.tup [.str "a", .str "b", .str "c"]) = some ([.str "a", .str "b", .str "c"], none) := rfl
  have asb : asBs [E.bl false, .bl false, .bl false] = some [false, false, false] := rfl
  have any1 : [false, false, false].any id = false := rfl
  have a5 : c9_5.ev (Pn 12) [s0, some (.ref 2), some (.ref fd), some (.ref wr), some (.int s), s5, s6, s7, some (.ref f2), s9, s10, s11, s12, s13, s14, s15, s16, some (.ref D), s18, s19, s20, s21] G = .nx [s0, some (.ref 2), some (.ref fd), some (.ref wr), some (.int s), s5, s6, s7, some (.ref f2), s9, s10, s11, s12, s13, s14, s15, s16, some (.ref D), s18, s19, s20, s21] G2 := by
    simp -implicitDefEqProofs only [Stms.ev, Stm.ev, Ex.ev, Ex.evT, Exs.ev, Exs.evAnd, Exs.evOr, Exs.evTAnd, Exs.evTOr, Ox.ev, Ox.evT, Lx.ev, It.ev, v_c, v_bin, v_cmp, v_bl, v_isN, v_ntN, v_not, v_tru, v_asB, v_and, v_or, v_if, v_tup, v_nil, v_cons, v_sub, v_onone, v_osome, v_slice, v_call, v_glb, v_ofE, v_disp, v_cat, v_bi1, v_biL, v_isi, v_inS, v_sidx, v_join, v_subL, v_new, v_dct, v_lenSet, v_attr, v_meth, v_nox, v_dct0, v_dcp, v_dget, v_dpop, v_chain, v_tupE, v_min2, v_listT, v_sortS, v_neL, strE, refE, q_v_setI, q_v_setA, q_v_augA, q_v_parA, v_yes, v_itL, v_itA, v_itR1, v_itR2, v_lc, q_v_asg, q_v_par, q_v_setD, q_v_expr, q_v_app, q_v_if, q_v_for, q_v_ret, o_add, o_sub, c_lt, c_le, c_gt, c_ge, a_add, R.bind_ok, R.bind_ex, R.bind_bad, R.st_ok, R.st_ex, R.st_bad, RS.seq_nx, RS.seq_rt, RS.seq_ex, RS.seq_bk, RS.seq_ct, RS.seq_bad, optR_some, optR_none, Tg.set, setAll, asB, Lt.truthy, isNon, biLE, getL_tmp, getM_tmp, Option.isSome_some, reduceIte, if_true, if_false, Bool.false_eq_true, Option.map_some, w0, w1, w2, w3, w4, w5, w6, w7, w8, w9, w10, w11, w12, w13, w14, w15, w16, w17, w18, w19, w20, w21, w22, w23, w24, x0, x1, x2, x3, x4, x5, x6, x7, x8, x9, x10, x11, x12, x13, x14, x15, x16, x17, x18, x19, x20, x21, x22, x23, x24, z0, z1, z2, z3, z4, z5, z6, z7, z8, z9, z10, z11, z12, z13, z14, z15, z16, z17, z18, z19, z20, z21, z22, z23, z24, y0, y1, y2, y3, y4, y5, y6, y7, y8, y9, y10, y11, y12, y13, y14, y15, y16, y17, y18, y19, y20, y21, y22, y23, y24, c9_5, m1, ar0, c1, gg, hf3, few2, ← hks, ne_keys, ln3, it, wipeR, List.map_cons, List.map_nil, l1, biLE, asb, any1, m4, c4, c_neI, decide_true, Bool.not_true]
  rw [r9_at5, a5, RS.seq_nx]
  have m6 := me_copy (k := 12) hd2.at_
  obtain ⟨G3, D2, kd3, nd3, wd3, c6, hd3, hU⟩ := copy_ok (k := 10) hd2
  have c6 : (Pn 12).cl 22 [.ref D] G2 = .ok (.ref D2) G3 := c6
  have h3 := h2.up hU
  have a6 : c9_6.ev (Pn 12) [s0, some (.ref 2), some (.ref fd), some (.ref wr), some (.int s), s5, s6, s7, some (.ref f2), s9, s10, s11, s12, s13, s14, s15, s16, some (.ref D), s18, s19, s20, s21] G2 = .nx [s0, some (.ref 2), some (.ref fd), some (.ref wr), some (.int s), s5, s6, s7, some (.ref f2), s9, s10, s11, s12, s13, some (.ref D2), s15, s16, some (.ref D), s18, s19, s20, s21] G3 := by
    simp -implicitDefEqProofs only [Stms.ev, Stm.ev, Ex.ev, Ex.evT, Exs.ev, Exs.evAnd, Exs.evOr, Exs.evTAnd, Exs.evTOr, Ox.ev, Ox.evT, Lx.ev, It.ev, v_c, v_bin, v_cmp, v_bl, v_isN, v_ntN, v_not, v_tru, v_asB, v_and, v_or, v_if, v_tup, v_nil, v_cons, v_sub, v_onone, v_osome, v_slice, v_call, v_glb, v_ofE, v_disp, v_cat, v_bi1, v_biL, v_isi, v_inS, v_sidx, v_join, v_subL, v_new, v_dct, v_lenSet, v_attr, v_meth, v_nox, v_dct0, v_dcp, v_dget, v_dpop, v_chain, v_tupE, v_min2, v_listT, v_sortS, v_neL, strE, refE, q_v_setI, q_v_setA, q_v_augA, q_v_parA, v_yes, v_itL, v_itA, v_itR1, v_itR2, v_lc, q_v_asg, q_v_par, q_v_setD, q_v_expr, q_v_app, q_v_if, q_v_for, q_v_ret, o_add, o_sub, c_lt, c_le, c_gt, c_ge, a_add, R.bind_ok, R.bind_ex, R.bind_bad, R.st_ok, R.st_ex, R.st_bad, RS.seq_nx, RS.seq_rt, RS.seq_ex, RS.seq_bk, RS.seq_ct, RS.seq_bad, optR_some, optR_none, Tg.set, setAll, asB, Lt.truthy, isNon, biLE, getL_tmp, getM_tmp, Option.isSome_some, reduceIte, if_true, if_false, Bool.false_eq_true, Option.map_some, w0, w1, w2, w3, w4, w5, w6, w7, w8, w9, w10, w11, w12, w13, w14, w15, w16, w17, w18, w19, w20, w21, w22, w23, w24, x0, x1, x2, x3, x4, x5, x6, x7, x8, x9, x10, x11, x12, x13, x14, x15, x16, x17, x18, x19, x20, x21, x22, x23, x24, z0, z1, z2, z3, z4, z5, z6, z7, z8, z9, z10, z11, z12, z13, z14, z15, z16, z17, z18, z19, z20, z21, z22, z23, z24, y0, y1, y2, y3, y4, y5, y6, y7, y8, y9, y10, y11, y12, y13, y14, y15, y16, y17, y18, y19, y20, y21, y22, y23, y24, c9_6, m6, ar0, c6]
  rw [r9_at6, a6, RS.seq_nx]
  have m7 := me_read (k := 12) hd3.at_
  have m8 := me_waits (k := 12) hd3.at_
  have c8 : (Pn 12).cl 21 [.ref D2] G3 = .ok (.int 0) G3 := waits_ok (k := 10) hd3 (by simp) (fun d h => by cases h)
  have d3 := dct_at h3.fil
  have l2 : lcS none [E.str "a", E.str "b", E.str "c"] (.name ⟨21, "own", ⟨212, 58, 212, 61⟩⟩) sYes (b7_2.ev (Pn 12)) [s0, some (.ref 2), some (.ref fd), some (.ref wr), some (.int s), s5, s6, s7, some (.ref f2), s9, s10, s11, s12, s13, some (.ref D2), s15, s16, some (.ref D), none, s19, s20, none] [E.str "a", E.str "b", E.str "c"] [] G3 = .ok [.bl false, .bl false, .bl false] G3 :=
    lc_map (H := G3) (g := E.str) (f := fun _ => .bl false) (all := [E.str "a", E.str "b", E.str "c"]) (n := ⟨21, "own", ⟨212, 58, 212, 61⟩⟩) (c := sYes) (e := b7_2.ev (Pn 12)) (fun _ => rfl) ["a", "b", "c"] [] (fun n _ => by
      show b7_2.ev (Pn 12) [s0, some (.ref 2), some (.ref fd), some (.ref wr), some (.int s), s5, s6, s7, some (.ref f2), s9, s10, s11, s12, s13, some (.ref D2), s15, s16, some (.ref D), none, s19, s20, some (.str n)] G3 = _
      have c2 : (Pn 12).cl 14 [.ref D2, .str n] G3 = .ok (.tup (nats (getF kept n))) G3 := read_ok (k := 11) hd3
      simp -implicitDefEqProofs only [Stms.ev, Stm.ev, Ex.ev, Ex.evT, Exs.ev, Exs.evAnd, Exs.evOr, Exs.evTAnd, Exs.evTOr, Ox.ev, Ox.evT, Lx.ev, It.ev, v_c, v_bin, v_cmp, v_bl, v_isN, v_ntN, v_not, v_tru, v_asB, v_and, v_or, v_if, v_tup, v_nil, v_cons, v_sub, v_onone, v_osome, v_slice, v_call, v_glb, v_ofE, v_disp, v_cat, v_bi1, v_biL, v_isi, v_inS, v_sidx, v_join, v_subL, v_new, v_dct, v_lenSet, v_attr, v_meth, v_nox, v_dct0, v_dcp, v_dget, v_dpop, v_chain, v_tupE, v_min2, v_listT, v_sortS, v_neL, strE, refE, q_v_setI, q_v_setA, q_v_augA, q_v_parA, v_yes, v_itL, v_itA, v_itR1, v_itR2, v_lc, q_v_asg, q_v_par, q_v_setD, q_v_expr, q_v_app, q_v_if, q_v_for, q_v_ret, o_add, o_sub, c_lt, c_le, c_gt, c_ge, a_add, R.bind_ok, R.bind_ex, R.bind_bad, R.st_ok, R.st_ex, R.st_bad, RS.seq_nx, RS.seq_rt, RS.seq_ex, RS.seq_bk, RS.seq_ct, RS.seq_bad, optR_some, optR_none, Tg.set, setAll, asB, Lt.truthy, isNon, biLE, getL_tmp, getM_tmp, Option.isSome_some, reduceIte, if_true, if_false, Bool.false_eq_true, Option.map_some, w0, w1, w2, w3, w4, w5, w6, w7, w8, w9, w10, w11, w12, w13, w14, w15, w16, w17, w18, w19, w20, w21, w22, w23, w24, x0, x1, x2, x3, x4, x5, x6, x7, x8, x9, x10, x11, x12, x13, x14, x15, x16, x17, x18, x19, x20, x21, x22, x23, x24, z0, z1, z2, z3, z4, z5, z6, z7, z8, z9, z10, z11, z12, z13, z14, z15, z16, z17, z18, z19, z20, z21, z22, z23, z24, y0, y1, y2, y3, y4, y5, y6, y7, y8, y9, y10, y11, y12, y13, y14, y15, y16, y17, y18, y19, y20, y21, y22, y23, y24, b7_2, m7, ar1, c2, d3, g0, fe_get, ne_nats]) (by simp)
  have it3 : itE G3 (.tup [.str "a", .str "b", .str "c"]) = some ([.str "a", .str "b", .str "c"], none) := rfl
  have a7 : c9_7.ev (Pn 12) [s0, some (.ref 2), some (.ref fd), some (.ref wr), some (.int s), s5, s6, s7, some (.ref f2), s9, s10, s11, s12, s13, some (.ref D2), s15, s16, some (.ref D), s18, s19, s20, s21] G3 = .nx [s0, some (.ref 2), some (.ref fd), some (.ref wr), some (.int s), s5, s6, s7, some (.ref f2), s9, s10, s11, s12, s13, some (.ref D2), s15, s16, some (.ref D), s18, s19, s20, s21] G3 := by
    simp -implicitDefEqProofs only [Stms.ev, Stm.ev, Ex.ev, Ex.evT, Exs.ev, Exs.evAnd, Exs.evOr, Exs.evTAnd, Exs.evTOr, Ox.ev, Ox.evT, Lx.ev, It.ev, v_c, v_bin, v_cmp, v_bl, v_isN, v_ntN, v_not, v_tru, v_asB, v_and, v_or, v_if, v_tup, v_nil, v_cons, v_sub, v_onone, v_osome, v_slice, v_call, v_glb, v_ofE, v_disp, v_cat, v_bi1, v_biL, v_isi, v_inS, v_sidx, v_join, v_subL, v_new, v_dct, v_lenSet, v_attr, v_meth, v_nox, v_dct0, v_dcp, v_dget, v_dpop, v_chain, v_tupE, v_min2, v_listT, v_sortS, v_neL, strE, refE, q_v_setI, q_v_setA, q_v_augA, q_v_parA, v_yes, v_itL, v_itA, v_itR1, v_itR2, v_lc, q_v_asg, q_v_par, q_v_setD, q_v_expr, q_v_app, q_v_if, q_v_for, q_v_ret, o_add, o_sub, c_lt, c_le, c_gt, c_ge, a_add, R.bind_ok, R.bind_ex, R.bind_bad, R.st_ok, R.st_ex, R.st_bad, RS.seq_nx, RS.seq_rt, RS.seq_ex, RS.seq_bk, RS.seq_ct, RS.seq_bad, optR_some, optR_none, Tg.set, setAll, asB, Lt.truthy, isNon, biLE, getL_tmp, getM_tmp, Option.isSome_some, reduceIte, if_true, if_false, Bool.false_eq_true, Option.map_some, w0, w1, w2, w3, w4, w5, w6, w7, w8, w9, w10, w11, w12, w13, w14, w15, w16, w17, w18, w19, w20, w21, w22, w23, w24, x0, x1, x2, x3, x4, x5, x6, x7, x8, x9, x10, x11, x12, x13, x14, x15, x16, x17, x18, x19, x20, x21, x22, x23, x24, z0, z1, z2, z3, z4, z5, z6, z7, z8, z9, z10, z11, z12, z13, z14, z15, z16, z17, z18, z19, z20, z21, z22, z23, z24, y0, y1, y2, y3, y4, y5, y6, y7, y8, y9, y10, y11, y12, y13, y14, y15, y16, y17, y18, y19, y20, y21, y22, y23, y24, c9_7, ln3, it3, wipeR, List.map_cons, List.map_nil, l2, biLE, asb, any1, m8, ar0, c8, c_neI, decide_true, Bool.not_true]
  rw [r9_at7, a7, RS.seq_nx]
  exact ⟨G3, some (.ref f2), some (.ref D2), h3, rfl⟩
end
end K02
end
section
set_option Elab.async false
set_option linter.all false
set_option maxRecDepth 100000
set_option maxHeartbeats 1000000
/-! k02: all turns; the fuse; the end. -/
namespace K02
open PySem Lt
section
variable {H : Hq} {D fd wr wd t : Nat} {s : Int} {kept now : Fl} {w : List Dd} {n : Str}
variable {s0 s1 s2 s3 s4 s5 s6 s7 s8 s9 s10 s11 s12 s13 s14 s15 s16 s17 s18 s19 s20 s21 : Option E}
theorem turn_ok (h : Hp H D fd wr wd s kept now w) (hP : Pl kept now w t) (ht : t ≤ 40) : ∃ H' fd' wr' wd' s' kept' now' w' u6 u7 u8 u9 u10 u12 u13 u14,
    b7_9.ev (Pn 12) [s0, some (.ref 2), some (.ref fd), some (.ref wr), some (.int s), s5, s6, s7, s8, s9, s10, s11, s12, s13, s14, s15, s16, some (.ref D), s18, s19, s20, s21] H = .nx [s0, some (.ref 2), some (.ref fd'), some (.ref wr'), some (.int s'), s5, u6, u7, u8, u9, u10, s11, u12, u13, u14, s15, s16, some (.ref D), s18, s19, s20, s21] H' ∧ Hp H' D fd' wr' wd' s' kept' now' w' ∧ Pl kept' now' w' (t + 1) := by
  obtain ⟨H1, n, x, u8, hn, hx, h1, e1⟩ := turn_head (s0 := s0) (s5 := s5) (s6 := s6) (s7 := s7) (s8 := s8) (s9 := s9) (s10 := s10) (s11 := s11) (s12 := s12) (s13 := s13) (s14 := s14) (s15 := s15) (s16 := s16) (s18 := s18) (s19 := s19) (s20 := s20) (s21 := s21) h hP ht
  obtain ⟨H2, fd', wr', wd', s', kept', now', w', u10, u12, u13, e2, h2, hP2⟩ := turn_deed (s0 := s0) (s5 := s5) (s8 := u8) (s10 := s10) (s11 := s11) (s12 := s12) (s13 := s13) (s14 := s14) (s15 := s15) (s16 := s16) (s18 := s18) (s19 := s19) (s20 := s20) (s21 := s21) h1 hP ht hn hx
  obtain ⟨H3, v8, v14, h3, e3⟩ := turn_end (s0 := s0) (s5 := s5) (s6 := some (.str n)) (s7 := some (.int (x : Int))) (s8 := u8) (s9 := some (.int ((getF now n).length : Int))) (s10 := u10) (s11 := s11) (s12 := u12) (s13 := u13) (s14 := s14) (s15 := s15) (s16 := s16) (s18 := s18) (s19 := s19) (s20 := s20) (s21 := s21) h2 hP2 (by omega)
  refine ⟨H3, fd', wr', wd', s', kept', now', w', some (.str n), some (.int (x : Int)), v8, some (.int ((getF now n).length : Int)), u10, u12, u13, v14, ?_, h3, hP2⟩
  rw [r9_eq, e1, r9_at3, show c9_3 = qi0 from rfl, e2, RS.seq_nx, e3]
theorem turns {all : List E} {tg : Tg} (htg : tg = .name ⟨5, "turn", ⟨182, 8, 182, 12⟩⟩) : ∀ (l : List E) (H : Hq) (fd wr wd t : Nat) (s : Int) (kept now : Fl) (w : List Dd) (s5 s6 s7 s8 s9 s10 s12 s13 s14 : Option E), Hp H D fd wr wd s kept now w → Pl kept now w t → t + l.length ≤ 40 →
    ∃ H' fd' wr' wd' s' kept' now' w' u5 u6 u7 u8 u9 u10 u12 u13 u14, forS none all tg (b7_9.ev (Pn 12)) l [s0, some (.ref 2), some (.ref fd), some (.ref wr), some (.int s), s5, s6, s7, s8, s9, s10, s11, s12, s13, s14, s15, s16, some (.ref D), s18, s19, s20, s21] H = .nx [s0, some (.ref 2), some (.ref fd'), some (.ref wr'), some (.int s'), u5, u6, u7, u8, u9, u10, s11, u12, u13, u14, s15, s16, some (.ref D), s18, s19, s20, s21] H' ∧ Hp H' D fd' wr' wd' s' kept' now' w' ∧ Pl kept' now' w' (t + l.length)
  | [], H, fd, wr, wd, t, s, kept, now, w, s5, s6, s7, s8, s9, s10, s12, s13, s14, h, hP, ht => ⟨H, fd, wr, wd, s, kept, now, w, s5, s6, s7, s8, s9, s10, s12, s13, s14, for_end rfl, h, hP⟩
  | y :: l, H, fd, wr, wd, t, s, kept, now, w, s5, s6, s7, s8, s9, s10, s12, s13, s14, h, hP, ht => by
    rw [List.length_cons] at ht
    obtain ⟨H1, fd1, wr1, wd1, t1, kept1, now1, v1, u6, u7, u8, u9, u10, u12, u13, u14, e1, h1, hP1⟩ := turn_ok (s0 := s0) (s5 := some y) (s6 := s6) (s7 := s7) (s8 := s8) (s9 := s9) (s10 := s10) (s11 := s11) (s12 := s12) (s13 := s13) (s14 := s14) (s15 := s15) (s16 := s16) (s18 := s18) (s19 := s19) (s20 := s20) (s21 := s21) h hP (by omega)
    obtain ⟨H2, fd2, wr2, wd2, t2, kept2, now2, v2, q5, q6, q7, q8, q9, q10, q12, q13, q14, e2, h2, hP2⟩ := turns (all := all) htg l H1 fd1 wr1 wd1 (t + 1) t1 kept1 now1 v1 (some y) u6 u7 u8 u9 u10 u12 u13 u14 h1 hP1 (by omega)
    refine ⟨H2, fd2, wr2, wd2, t2, kept2, now2, v2, q5, q6, q7, q8, q9, q10, q12, q13, q14, ?_, h2, by rw [List.length_cons, show t + (l.length + 1) = t + 1 + l.length by omega]; exact hP2⟩
    subst htg
    rw [for_nx (ρ1 := [s0, some (.ref 2), some (.ref fd), some (.ref wr), some (.int s), some (y), s6, s7, s8, s9, s10, s11, s12, s13, s14, s15, s16, some (.ref D), s18, s19, s20, s21]) rfl rfl e1, e2]
theorem for_ex {st : Option Nat} {all : List E} {tg : Tg} {b : Ss} {x : E} {r : List E} {ρ ρ1 ρ2 : Ro} {H H2 : Hq} {c : Nat} (hs : staysB st all H = true) (ht : tg.set x ρ = some ρ1) (hb : b ρ1 H = .ex c ρ2 H2) : forS st all tg b (x :: r) ρ H = .ex c ρ2 H2 := by
  show (if staysB st all H then _ else _) = _
  rw [if_pos hs, ht]
  show (match b ρ1 H with | .nx ρ2 G2 => forS st all tg b r ρ2 G2 | .ct ρ2 G2 => forS st all tg b r ρ2 G2 | .bk ρ2 G2 => .nx ρ2 G2 | .rt v G2 => .rt v G2 | .ex c ρ2 G2 => .ex c ρ2 G2 | .bad => .bad) = _
  rw [hb]
/-- six writes with a fuse -/
theorem burns {all : List E} {tg : Tg} (htg : tg = .name ⟨11, "k", ⟨217, 12, 217, 13⟩⟩) : ∀ (m : Nat) (l : List E) (H : Hq) (nd i M : Nat) (s : Int) (now : Fl) (w : List Dd) (kd wd : Nat) (s11 : Option E), m < l.length → DiskAt H D kd nd wd kept now w (.int (m : Int)) s → Gd now M → l.length ≤ 6 → M + l.length ≤ 5006 → w.length + l.length ≤ 500 → (∀ d ∈ w, d.n ∈ names4 ∧ d.r.length ≤ 50) →
    ∃ H' nd' now' w' u11, forS none all tg (b7_0.ev (Pn 12)) l [s0, s1, s2, s3, s4, s5, s6, s7, s8, s9, s10, s11, s12, s13, s14, s15, some (.int (i : Int)), some (.ref D), s18, s19, s20, s21] H = .ex 1 [s0, s1, s2, s3, s4, s5, s6, s7, s8, s9, s10, u11, s12, s13, s14, s15, some (.int ((i + m : Nat) : Int)), some (.ref D), s18, s19, s20, s21] H' ∧ DiskAt H' D kd nd' wd kept now' w' (.int 0) (s + (m : Int)) ∧ w'.length ≤ w.length + l.length ∧ ∀ d ∈ w', d.n ∈ names4 ∧ d.r.length ≤ 50
  | m, [], H, nd, i, M, s, now, w, kd, wd, s11, hm, _, _, _, _, _, _ => absurd hm (by simp)
  | 0, y :: l, H, nd, i, M, s, now, w, kd, wd, s11, hm, h, hG, hl6, hMl, hw, hd => by
    have m1 := me_write (k := 12) h.at_
    have c1 : (Pn 12).cl 16 [.ref D, .str "z", .int 0, .tup [.int 1]] H = .ex 1 H := write_dark (k := 10) (n := "z") (p := 0) (r := [1]) h (by simp) (by omega) (fun a ha => by rw [List.mem_singleton] at ha; omega) (by simp)
    have e : b7_0.ev (Pn 12) [s0, s1, s2, s3, s4, s5, s6, s7, s8, s9, s10, some (y), s12, s13, s14, s15, some (.int (i : Int)), some (.ref D), s18, s19, s20, s21] H = .ex 1 [s0, s1, s2, s3, s4, s5, s6, s7, s8, s9, s10, some (y), s12, s13, s14, s15, some (.int (i : Int)), some (.ref D), s18, s19, s20, s21] H := by
      simp -implicitDefEqProofs only [Stms.ev, Stm.ev, Ex.ev, Ex.evT, Exs.ev, Exs.evAnd, Exs.evOr, Exs.evTAnd, Exs.evTOr, Ox.ev, Ox.evT, Lx.ev, It.ev, v_c, v_bin, v_cmp, v_bl, v_isN, v_ntN, v_not, v_tru, v_asB, v_and, v_or, v_if, v_tup, v_nil, v_cons, v_sub, v_onone, v_osome, v_slice, v_call, v_glb, v_ofE, v_disp, v_cat, v_bi1, v_biL, v_isi, v_inS, v_sidx, v_join, v_subL, v_new, v_dct, v_lenSet, v_attr, v_meth, v_nox, v_dct0, v_dcp, v_dget, v_dpop, v_chain, v_tupE, v_min2, v_listT, v_sortS, v_neL, strE, refE, q_v_setI, q_v_setA, q_v_augA, q_v_parA, v_yes, v_itL, v_itA, v_itR1, v_itR2, v_lc, q_v_asg, q_v_par, q_v_setD, q_v_expr, q_v_app, q_v_if, q_v_for, q_v_ret, o_add, o_sub, c_lt, c_le, c_gt, c_ge, a_add, R.bind_ok, R.bind_ex, R.bind_bad, R.st_ok, R.st_ex, R.st_bad, RS.seq_nx, RS.seq_rt, RS.seq_ex, RS.seq_bk, RS.seq_ct, RS.seq_bad, optR_some, optR_none, Tg.set, setAll, asB, Lt.truthy, isNon, biLE, getL_tmp, getM_tmp, Option.isSome_some, reduceIte, if_true, if_false, Bool.false_eq_true, Option.map_some, w0, w1, w2, w3, w4, w5, w6, w7, w8, w9, w10, w11, w12, w13, w14, w15, w16, w17, w18, w19, w20, w21, w22, w23, w24, x0, x1, x2, x3, x4, x5, x6, x7, x8, x9, x10, x11, x12, x13, x14, x15, x16, x17, x18, x19, x20, x21, x22, x23, x24, z0, z1, z2, z3, z4, z5, z6, z7, z8, z9, z10, z11, z12, z13, z14, z15, z16, z17, z18, z19, z20, z21, z22, z23, z24, y0, y1, y2, y3, y4, y5, y6, y7, y8, y9, y10, y11, y12, y13, y14, y15, y16, y17, y18, y19, y20, y21, y22, y23, y24, b7_0, m1, ar3, ln1, c1]
    refine ⟨H, nd, now, w, some y, ?_, by simpa using h, by omega, hd⟩
    subst htg
    rw [for_ex (ρ1 := [s0, s1, s2, s3, s4, s5, s6, s7, s8, s9, s10, some (y), s12, s13, s14, s15, some (.int (i : Int)), some (.ref D), s18, s19, s20, s21]) rfl rfl e]
    rfl
  | m + 1, y :: l, H, nd, i, M, s, now, w, kd, wd, s11, hm, h, hG, hl6, hMl, hw, hd => by
    rw [List.length_cons] at hm hl6 hMl hw
    have m1 := me_write (k := 12) h.at_
    have hz : ("z" : Str) ∈ names4 := by simp [names4]
    obtain ⟨H1, e1, h1, hF⟩ := write_ok (k := 9) (n := "z") (p := 0) (r := [1]) h (.inr ⟨((m + 1 : Nat) : Int), rfl, by omega⟩) (by omega) (fun a ha => by rw [List.mem_singleton] at ha; omega) (by simp) (hG.fit (d := ⟨.wr, "z", 0, [1]⟩) (by show M + 1 ≤ _; omega)) (hG.h40 (d := ⟨.wr, "z", 0, [1]⟩) hz) (by omega)
    have c1 : (Pn 12).cl 16 [.ref D, .str "z", .int 0, .tup [.int 1]] H = .ok .non H1 := e1
    have hb : burn (.int ((m + 1 : Nat) : Int)) = .int (m : Int) := by
      show E.int (((m + 1 : Nat) : Int) - 1) = _
      congr 1
      omega
    rw [hb] at h1
    obtain ⟨H2, nd2, now2, v2, u11, e2, h2, hw2, hd2⟩ := burns (all := all) htg m l H1 H.length (i + 1) (M + 1) (s + 1) _ _ kd wd (some y) (by omega) h1 (hG.done (d := ⟨.wr, "z", 0, [1]⟩) (R := 1) hz (by simp)) (by omega) (by omega) (by rw [List.length_append]; simp; omega) (fun d hx => by
      rcases List.mem_append.mp hx with hx | hx
      · exact hd d hx
      · rw [List.mem_singleton] at hx
        rw [hx]
        exact ⟨hz, by simp⟩)
    have e : b7_0.ev (Pn 12) [s0, s1, s2, s3, s4, s5, s6, s7, s8, s9, s10, some (y), s12, s13, s14, s15, some (.int (i : Int)), some (.ref D), s18, s19, s20, s21] H = .nx [s0, s1, s2, s3, s4, s5, s6, s7, s8, s9, s10, some (y), s12, s13, s14, s15, some (.int ((i + 1 : Nat) : Int)), some (.ref D), s18, s19, s20, s21] H1 := by
      simp -implicitDefEqProofs only [Stms.ev, Stm.ev, Ex.ev, Ex.evT, Exs.ev, Exs.evAnd, Exs.evOr, Exs.evTAnd, Exs.evTOr, Ox.ev, Ox.evT, Lx.ev, It.ev, v_c, v_bin, v_cmp, v_bl, v_isN, v_ntN, v_not, v_tru, v_asB, v_and, v_or, v_if, v_tup, v_nil, v_cons, v_sub, v_onone, v_osome, v_slice, v_call, v_glb, v_ofE, v_disp, v_cat, v_bi1, v_biL, v_isi, v_inS, v_sidx, v_join, v_subL, v_new, v_dct, v_lenSet, v_attr, v_meth, v_nox, v_dct0, v_dcp, v_dget, v_dpop, v_chain, v_tupE, v_min2, v_listT, v_sortS, v_neL, strE, refE, q_v_setI, q_v_setA, q_v_augA, q_v_parA, v_yes, v_itL, v_itA, v_itR1, v_itR2, v_lc, q_v_asg, q_v_par, q_v_setD, q_v_expr, q_v_app, q_v_if, q_v_for, q_v_ret, o_add, o_sub, c_lt, c_le, c_gt, c_ge, a_add, R.bind_ok, R.bind_ex, R.bind_bad, R.st_ok, R.st_ex, R.st_bad, RS.seq_nx, RS.seq_rt, RS.seq_ex, RS.seq_bk, RS.seq_ct, RS.seq_bad, optR_some, optR_none, Tg.set, setAll, asB, Lt.truthy, isNon, biLE, getL_tmp, getM_tmp, Option.isSome_some, reduceIte, if_true, if_false, Bool.false_eq_true, Option.map_some, w0, w1, w2, w3, w4, w5, w6, w7, w8, w9, w10, w11, w12, w13, w14, w15, w16, w17, w18, w19, w20, w21, w22, w23, w24, x0, x1, x2, x3, x4, x5, x6, x7, x8, x9, x10, x11, x12, x13, x14, x15, x16, x17, x18, x19, x20, x21, x22, x23, x24, z0, z1, z2, z3, z4, z5, z6, z7, z8, z9, z10, z11, z12, z13, z14, z15, z16, z17, z18, z19, z20, z21, z22, z23, z24, y0, y1, y2, y3, y4, y5, y6, y7, y8, y9, y10, y11, y12, y13, y14, y15, y16, y17, y18, y19, y20, y21, y22, y23, y24, b7_0, m1, ar3, ln1, c1]
      rfl
    refine ⟨H2, nd2, now2, v2, u11, ?_, ?_, ?_, hd2⟩
    · subst htg
      rw [for_nx (ρ1 := [s0, s1, s2, s3, s4, s5, s6, s7, s8, s9, s10, some (y), s12, s13, s14, s15, some (.int (i : Int)), some (.ref D), s18, s19, s20, s21]) rfl rfl e, e2, show i + 1 + m = i + (m + 1) by omega]
    · rw [show s + ((m + 1 : Nat) : Int) = s + 1 + (m : Int) by omega]
      exact h2
    · rw [List.length_append] at hw2
      simp only [List.length_cons, List.length_nil] at hw2 ⊢
      omega
end
end K02
end
section
set_option Elab.async false
set_option linter.all false
set_option maxRecDepth 100000
set_option maxHeartbeats 1000000
/-! k02: the law, whole. -/
namespace K02
open PySem Lt
def Good (r : RS) : Prop := ∃ H', r = .rt (.bl true) H'
theorem Good_seq {r : RS} {f : Ro → Hq → RS} {ρ : Ro} {H : Hq} (h : r = .nx ρ H) (hg : Good (f ρ H)) : Good (r.seq f) := by
  rw [h]
  exact hg
theorem v_refd {k : Nat} {a : Sx E} {ρ : Ro} {H : Hq} : sRefd (Pn k) 0 a ρ H = (match a ρ H with
  | .ok _ G1 => .ok (.bl false) G1
  | .ex c G1 => if (Pn k).rf 0 c = true then .ok (.bl true) G1 else .bad
  | .bad => .bad) := rfl
theorem rf00 : ((Pn 12).rf 0 0 = true) = True := eq_true rfl
theorem rf01 : ((Pn 12).rf 0 1 = true) = True := eq_true rfl
theorem tri_ex {P : Par} {b : Ss} {g i j c : Nat} {o : COp} {v : Bool} {ρ ρ2 : Ro} {H H2 : Hq} {x y : E} (hb : b ρ H = .ex c ρ2 H2) (ht : P.tf g c = true) (hi : ρ2[i]? = some (some x)) (hj : ρ2[j]? = some (some y)) (hc : cmpop o x y = some false) : qTri P b g o i j v ρ H = .nx ρ2 H2 := by
  unfold qTri
  rw [hb]
  simp only [ht, hi, hj, hc, if_true]
theorem lost0_in {d : Dd} : ∀ (xs : List (Nat × List Nat)) (a : Fl × Nat), (xs.foldl (ls1 [] d) a).1 = a.1
  | [], a => rfl
  | x :: xs, a => by
    rw [List.foldl_cons, lost0_in xs]
    rfl
theorem lost0 : ∀ (w : List Dd) (a : Fl × Nat), (w.foldl (lsD []) a).1 = a.1
  | [], a => rfl
  | d :: w, a => by
    rw [List.foldl_cons, lost0 w]
    exact lost0_in _ _
section
variable {H : Hq} {D fd wr wd kd nd t f M : Nat} {s : Int} {kept now : Fl} {w : List Dd} {n : Str}
variable {s0 s1 s2 s3 s4 s5 s6 s7 s8 s9 s10 s11 s12 s13 s14 s15 s16 s17 s18 s19 s20 s21 : Option E}
theorem t11 (h : DiskAt H D kd nd wd kept now w .non s) (hz : getF now "z" = []) : Good (r7_11.ev (Pn 12) [s0, s1, s2, s3, s4, s5, s6, s7, s8, s9, s10, s11, s12, s13, s14, s15, s16, some (.ref D), s18, s19, s20, s21] H) := by
  have m1 := me_write (k := 12) h.at_
  have m2 := me_read (k := 12) h.at_
  have c1 : (Pn 12).cl 16 [.ref D, .str "a", .int 0, .tup [.int 256]] H = .ex 0 H := write_256 (k := 10) h
  have c2 : (Pn 12).cl 14 [.ref D, .str "z"] H = .ok (.tup (nats (getF now "z"))) H := read_ok (k := 11) h
  rw [hz] at c2
  have q : cmpop .eq (.tup (nats [])) (.tup []) = some true := eqE_self (x := .tup []) rfl (by show E.deps [] + 1 ≤ 64; show 0 + 1 ≤ 64; omega)
  rw [r7_at11]
  refine ⟨H, ?_⟩
  have e : c7_11.ev (Pn 12) [s0, s1, s2, s3, s4, s5, s6, s7, s8, s9, s10, s11, s12, s13, s14, s15, s16, some (.ref D), s18, s19, s20, s21] H = .rt (.bl true) H := by
    simp -implicitDefEqProofs only [Stms.ev, Stm.ev, Ex.ev, Ex.evT, Exs.ev, Exs.evAnd, Exs.evOr, Exs.evTAnd, Exs.evTOr, Ox.ev, Ox.evT, Lx.ev, It.ev, v_c, v_bin, v_cmp, v_bl, v_isN, v_ntN, v_not, v_tru, v_asB, v_and, v_or, v_if, v_tup, v_nil, v_cons, v_sub, v_onone, v_osome, v_slice, v_call, v_glb, v_ofE, v_disp, v_cat, v_bi1, v_biL, v_isi, v_inS, v_sidx, v_join, v_subL, v_new, v_dct, v_lenSet, v_attr, v_meth, v_nox, v_dct0, v_dcp, v_dget, v_dpop, v_chain, v_tupE, v_min2, v_listT, v_sortS, v_neL, strE, refE, q_v_setI, q_v_setA, q_v_augA, q_v_parA, v_yes, v_itL, v_itA, v_itR1, v_itR2, v_lc, q_v_asg, q_v_par, q_v_setD, q_v_expr, q_v_app, q_v_if, q_v_for, q_v_ret, o_add, o_sub, c_lt, c_le, c_gt, c_ge, a_add, R.bind_ok, R.bind_ex, R.bind_bad, R.st_ok, R.st_ex, R.st_bad, RS.seq_nx, RS.seq_rt, RS.seq_ex, RS.seq_bk, RS.seq_ct, RS.seq_bad, optR_some, optR_none, Tg.set, setAll, asB, Lt.truthy, isNon, biLE, getL_tmp, getM_tmp, Option.isSome_some, reduceIte, if_true, if_false, Bool.false_eq_true, Option.map_some, w0, w1, w2, w3, w4, w5, w6, w7, w8, w9, w10, w11, w12, w13, w14, w15, w16, w17, w18, w19, w20, w21, w22, w23, w24, x0, x1, x2, x3, x4, x5, x6, x7, x8, x9, x10, x11, x12, x13, x14, x15, x16, x17, x18, x19, x20, x21, x22, x23, x24, z0, z1, z2, z3, z4, z5, z6, z7, z8, z9, z10, z11, z12, z13, z14, z15, z16, z17, z18, z19, z20, z21, z22, z23, z24, y0, y1, y2, y3, y4, y5, y6, y7, y8, y9, y10, y11, y12, y13, y14, y15, y16, y17, y18, y19, y20, y21, y22, y23, y24, c7_11, v_refd, m1, ar3, ln1, c1, rf00, m2, ar1, c2, ln0, q]
  rw [e]
  rfl
theorem t10 (h : DiskAt H D kd nd wd kept now w .non s) (hz : getF now "z" = []) : Good (r7_10.ev (Pn 12) [s0, s1, s2, s3, s4, s5, s6, s7, s8, s9, s10, s11, s12, s13, s14, s15, s16, some (.ref D), s18, s19, s20, s21] H) := by
  have m1 := me_cut (k := 12) h.at_
  have m2 := me_size (k := 12) h.at_
  have c2 : (Pn 12).cl 13 [.ref D, .str "a"] H = .ok (.int ((getF now "a").length : Int)) H := size_ok (k := 11) h
  have c1 : (Pn 12).cl 17 [.ref D, .str "a", .int ((getF now "a").length + 1 : Int)] H = .ex 0 H := cut_gap (k := 10) (p := (getF now "a").length + 1) h (by omega)
  rw [r7_at10]
  refine Good_seq (ρ := [s0, s1, s2, s3, s4, s5, s6, s7, s8, s9, s10, s11, s12, s13, s14, s15, s16, some (.ref D), s18, s19, s20, s21]) (H := H) ?_ (t11 h hz)
  simp -implicitDefEqProofs only [Stms.ev, Stm.ev, Ex.ev, Ex.evT, Exs.ev, Exs.evAnd, Exs.evOr, Exs.evTAnd, Exs.evTOr, Ox.ev, Ox.evT, Lx.ev, It.ev, v_c, v_bin, v_cmp, v_bl, v_isN, v_ntN, v_not, v_tru, v_asB, v_and, v_or, v_if, v_tup, v_nil, v_cons, v_sub, v_onone, v_osome, v_slice, v_call, v_glb, v_ofE, v_disp, v_cat, v_bi1, v_biL, v_isi, v_inS, v_sidx, v_join, v_subL, v_new, v_dct, v_lenSet, v_attr, v_meth, v_nox, v_dct0, v_dcp, v_dget, v_dpop, v_chain, v_tupE, v_min2, v_listT, v_sortS, v_neL, strE, refE, q_v_setI, q_v_setA, q_v_augA, q_v_parA, v_yes, v_itL, v_itA, v_itR1, v_itR2, v_lc, q_v_asg, q_v_par, q_v_setD, q_v_expr, q_v_app, q_v_if, q_v_for, q_v_ret, o_add, o_sub, c_lt, c_le, c_gt, c_ge, a_add, R.bind_ok, R.bind_ex, R.bind_bad, R.st_ok, R.st_ex, R.st_bad, RS.seq_nx, RS.seq_rt, RS.seq_ex, RS.seq_bk, RS.seq_ct, RS.seq_bad, optR_some, optR_none, Tg.set, setAll, asB, Lt.truthy, isNon, biLE, getL_tmp, getM_tmp, Option.isSome_some, reduceIte, if_true, if_false, Bool.false_eq_true, Option.map_some, w0, w1, w2, w3, w4, w5, w6, w7, w8, w9, w10, w11, w12, w13, w14, w15, w16, w17, w18, w19, w20, w21, w22, w23, w24, x0, x1, x2, x3, x4, x5, x6, x7, x8, x9, x10, x11, x12, x13, x14, x15, x16, x17, x18, x19, x20, x21, x22, x23, x24, z0, z1, z2, z3, z4, z5, z6, z7, z8, z9, z10, z11, z12, z13, z14, z15, z16, z17, z18, z19, z20, z21, z22, z23, z24, y0, y1, y2, y3, y4, y5, y6, y7, y8, y9, y10, y11, y12, y13, y14, y15, y16, y17, y18, y19, y20, y21, y22, y23, y24, c7_10, v_refd, m2, ar1, c2, m1, ar2, c1, rf00, Bool.not_true]
theorem t9 (h : DiskAt H D kd nd wd kept now w .non s) (hz : getF now "z" = []) : Good (r7_9.ev (Pn 12) [s0, s1, s2, s3, s4, s5, s6, s7, s8, s9, s10, s11, s12, s13, s14, s15, s16, some (.ref D), s18, s19, s20, s21] H) := by
  have m1 := me_write (k := 12) h.at_
  have m2 := me_size (k := 12) h.at_
  have c2 : (Pn 12).cl 13 [.ref D, .str "a"] H = .ok (.int ((getF now "a").length : Int)) H := size_ok (k := 11) h
  have c1 : (Pn 12).cl 16 [.ref D, .str "a", .int ((getF now "a").length + 1 : Int), .tup [.int 1]] H = .ex 0 H := write_gap (k := 10) (p := (getF now "a").length + 1) (r := [1]) h (by omega)
  rw [r7_at9]
  refine Good_seq (ρ := [s0, s1, s2, s3, s4, s5, s6, s7, s8, s9, s10, s11, s12, s13, s14, s15, s16, some (.ref D), s18, s19, s20, s21]) (H := H) ?_ (t10 h hz)
  simp -implicitDefEqProofs only [Stms.ev, Stm.ev, Ex.ev, Ex.evT, Exs.ev, Exs.evAnd, Exs.evOr, Exs.evTAnd, Exs.evTOr, Ox.ev, Ox.evT, Lx.ev, It.ev, v_c, v_bin, v_cmp, v_bl, v_isN, v_ntN, v_not, v_tru, v_asB, v_and, v_or, v_if, v_tup, v_nil, v_cons, v_sub, v_onone, v_osome, v_slice, v_call, v_glb, v_ofE, v_disp, v_cat, v_bi1, v_biL, v_isi, v_inS, v_sidx, v_join, v_subL, v_new, v_dct, v_lenSet, v_attr, v_meth, v_nox, v_dct0, v_dcp, v_dget, v_dpop, v_chain, v_tupE, v_min2, v_listT, v_sortS, v_neL, strE, refE, q_v_setI, q_v_setA, q_v_augA, q_v_parA, v_yes, v_itL, v_itA, v_itR1, v_itR2, v_lc, q_v_asg, q_v_par, q_v_setD, q_v_expr, q_v_app, q_v_if, q_v_for, q_v_ret, o_add, o_sub, c_lt, c_le, c_gt, c_ge, a_add, R.bind_ok, R.bind_ex, R.bind_bad, R.st_ok, R.st_ex, R.st_bad, RS.seq_nx, RS.seq_rt, RS.seq_ex, RS.seq_bk, RS.seq_ct, RS.seq_bad, optR_some, optR_none, Tg.set, setAll, asB, Lt.truthy, isNon, biLE, getL_tmp, getM_tmp, Option.isSome_some, reduceIte, if_true, if_false, Bool.false_eq_true, Option.map_some, w0, w1, w2, w3, w4, w5, w6, w7, w8, w9, w10, w11, w12, w13, w14, w15, w16, w17, w18, w19, w20, w21, w22, w23, w24, x0, x1, x2, x3, x4, x5, x6, x7, x8, x9, x10, x11, x12, x13, x14, x15, x16, x17, x18, x19, x20, x21, x22, x23, x24, z0, z1, z2, z3, z4, z5, z6, z7, z8, z9, z10, z11, z12, z13, z14, z15, z16, z17, z18, z19, z20, z21, z22, z23, z24, y0, y1, y2, y3, y4, y5, y6, y7, y8, y9, y10, y11, y12, y13, y14, y15, y16, y17, y18, y19, y20, y21, y22, y23, y24, c7_9, v_refd, m2, ar1, c2, m1, ar3, ln1, c1, rf00, Bool.not_true]
theorem t8 (h : DiskAt H D kd nd wd kept kept [] .non s) (hG : Gd kept M) (hM : M ≤ 5000) (hz : getF kept "z" = []) : Good (r7_8.ev (Pn 12) [s0, s1, s2, s3, s4, s5, s6, s7, s8, s9, s10, s11, s12, s13, s14, s15, s16, some (.ref D), s18, s19, s20, s21] H) := by
  have m1 := me_sync (k := 12) h.at_
  obtain ⟨H1, kd1, e1, h1, _⟩ := sync_ok (k := 10) (n := "z") h (.inl rfl) hG (fun d hd => by cases hd) (by simp; omega) (by simp)
  have c1 : (Pn 12).cl 19 [.ref D, .str "z"] H = .ok .non H1 := e1
  rw [r7_at8]
  refine Good_seq (ρ := [s0, s1, s2, s3, s4, s5, s6, s7, s8, s9, s10, s11, s12, s13, s14, s15, s16, some (.ref D), s18, s19, s20, s21]) (H := H1) ?_ (t9 h1 hz)
  simp -implicitDefEqProofs only [Stms.ev, Stm.ev, Ex.ev, Ex.evT, Exs.ev, Exs.evAnd, Exs.evOr, Exs.evTAnd, Exs.evTOr, Ox.ev, Ox.evT, Lx.ev, It.ev, v_c, v_bin, v_cmp, v_bl, v_isN, v_ntN, v_not, v_tru, v_asB, v_and, v_or, v_if, v_tup, v_nil, v_cons, v_sub, v_onone, v_osome, v_slice, v_call, v_glb, v_ofE, v_disp, v_cat, v_bi1, v_biL, v_isi, v_inS, v_sidx, v_join, v_subL, v_new, v_dct, v_lenSet, v_attr, v_meth, v_nox, v_dct0, v_dcp, v_dget, v_dpop, v_chain, v_tupE, v_min2, v_listT, v_sortS, v_neL, strE, refE, q_v_setI, q_v_setA, q_v_augA, q_v_parA, v_yes, v_itL, v_itA, v_itR1, v_itR2, v_lc, q_v_asg, q_v_par, q_v_setD, q_v_expr, q_v_app, q_v_if, q_v_for, q_v_ret, o_add, o_sub, c_lt, c_le, c_gt, c_ge, a_add, R.bind_ok, R.bind_ex, R.bind_bad, R.st_ok, R.st_ex, R.st_bad, RS.seq_nx, RS.seq_rt, RS.seq_ex, RS.seq_bk, RS.seq_ct, RS.seq_bad, optR_some, optR_none, Tg.set, setAll, asB, Lt.truthy, isNon, biLE, getL_tmp, getM_tmp, Option.isSome_some, reduceIte, if_true, if_false, Bool.false_eq_true, Option.map_some, w0, w1, w2, w3, w4, w5, w6, w7, w8, w9, w10, w11, w12, w13, w14, w15, w16, w17, w18, w19, w20, w21, w22, w23, w24, x0, x1, x2, x3, x4, x5, x6, x7, x8, x9, x10, x11, x12, x13, x14, x15, x16, x17, x18, x19, x20, x21, x22, x23, x24, z0, z1, z2, z3, z4, z5, z6, z7, z8, z9, z10, z11, z12, z13, z14, z15, z16, z17, z18, z19, z20, z21, z22, z23, z24, y0, y1, y2, y3, y4, y5, y6, y7, y8, y9, y10, y11, y12, y13, y14, y15, y16, y17, y18, y19, y20, y21, y22, y23, y24, c7_8, m1, ar1, c1]
theorem t7 {fz : E} (h : DiskAt H D kd nd wd kept now w fz s) (hG : Gd kept M) (hM : M ≤ 5000) (hz : getF kept "z" = []) (hw : w.length ≤ 500) (hd : ∀ d ∈ w, d.n ∈ names4 ∧ d.r.length ≤ 50) : Good (r7_7.ev (Pn 12) [s0, s1, s2, s3, s4, s5, s6, s7, s8, s9, s10, s11, s12, s13, s14, s15, s16, some (.ref D), s18, s19, s20, s21] H) := by
  have m1 := me_lose (k := 12) h.at_
  obtain ⟨H1, kd1, nd1, wd1, e1, h1, _⟩ := lose_ok (k := 10) (ps := []) h hG hd (by omega)
  have c1 : (Pn 12).cl 20 [.ref D, .tup []] H = .ok .non H1 := e1
  rw [show lost [] w kept = kept from lost0 w (kept, 0)] at h1
  rw [r7_at7]
  refine Good_seq (ρ := [s0, s1, s2, s3, s4, s5, s6, s7, s8, s9, s10, s11, s12, s13, s14, s15, s16, some (.ref D), s18, s19, s20, s21]) (H := H1) ?_ (t8 h1 hG hM hz)
  simp -implicitDefEqProofs only [Stms.ev, Stm.ev, Ex.ev, Ex.evT, Exs.ev, Exs.evAnd, Exs.evOr, Exs.evTAnd, Exs.evTOr, Ox.ev, Ox.evT, Lx.ev, It.ev, v_c, v_bin, v_cmp, v_bl, v_isN, v_ntN, v_not, v_tru, v_asB, v_and, v_or, v_if, v_tup, v_nil, v_cons, v_sub, v_onone, v_osome, v_slice, v_call, v_glb, v_ofE, v_disp, v_cat, v_bi1, v_biL, v_isi, v_inS, v_sidx, v_join, v_subL, v_new, v_dct, v_lenSet, v_attr, v_meth, v_nox, v_dct0, v_dcp, v_dget, v_dpop, v_chain, v_tupE, v_min2, v_listT, v_sortS, v_neL, strE, refE, q_v_setI, q_v_setA, q_v_augA, q_v_parA, v_yes, v_itL, v_itA, v_itR1, v_itR2, v_lc, q_v_asg, q_v_par, q_v_setD, q_v_expr, q_v_app, q_v_if, q_v_for, q_v_ret, o_add, o_sub, c_lt, c_le, c_gt, c_ge, a_add, R.bind_ok, R.bind_ex, R.bind_bad, R.st_ok, R.st_ex, R.st_bad, RS.seq_nx, RS.seq_rt, RS.seq_ex, RS.seq_bk, RS.seq_ct, RS.seq_bad, optR_some, optR_none, Tg.set, setAll, asB, Lt.truthy, isNon, biLE, getL_tmp, getM_tmp, Option.isSome_some, reduceIte, if_true, if_false, Bool.false_eq_true, Option.map_some, w0, w1, w2, w3, w4, w5, w6, w7, w8, w9, w10, w11, w12, w13, w14, w15, w16, w17, w18, w19, w20, w21, w22, w23, w24, x0, x1, x2, x3, x4, x5, x6, x7, x8, x9, x10, x11, x12, x13, x14, x15, x16, x17, x18, x19, x20, x21, x22, x23, x24, z0, z1, z2, z3, z4, z5, z6, z7, z8, z9, z10, z11, z12, z13, z14, z15, z16, z17, z18, z19, z20, z21, z22, z23, z24, y0, y1, y2, y3, y4, y5, y6, y7, y8, y9, y10, y11, y12, y13, y14, y15, y16, y17, y18, y19, y20, y21, y22, y23, y24, c7_7, m1, ar1, ln0, c1]
theorem t6 (h : DiskAt H D kd nd wd kept now w (.int 0) (s + (f : Int))) (hG : Gd kept M) (hM : M ≤ 5000) (hz : getF kept "z" = []) (hw : w.length ≤ 500) (hd : ∀ d ∈ w, d.n ∈ names4 ∧ d.r.length ≤ 50) : Good (r7_6.ev (Pn 12) [s0, s1, s2, s3, some (.int s), s5, s6, s7, s8, s9, s10, s11, s12, s13, s14, some (.int (f : Int)), some (.int (f : Int)), some (.ref D), s18, s19, s20, s21] H) := by
  have m1 := me_steps (k := 12) h.at_
  have m2 := me_sync (k := 12) h.at_
  have c1 : (Pn 12).cl 9 [.ref D] H = .ok (.int (s + (f : Int))) H := steps_ok (k := 11) h
  have c2 : (Pn 12).cl 19 [.ref D, .str "z"] H = .ex 1 H := sync_dark (k := 10) h (by omega)
  rw [r7_at6]
  refine Good_seq (ρ := [s0, s1, s2, s3, some (.int s), s5, s6, s7, s8, s9, s10, s11, s12, s13, s14, some (.int (f : Int)), some (.int (f : Int)), some (.ref D), s18, s19, s20, s21]) (H := H) ?_ (t7 h hG hM hz hw hd)
  simp -implicitDefEqProofs only [Stms.ev, Stm.ev, Ex.ev, Ex.evT, Exs.ev, Exs.evAnd, Exs.evOr, Exs.evTAnd, Exs.evTOr, Ox.ev, Ox.evT, Lx.ev, It.ev, v_c, v_bin, v_cmp, v_bl, v_isN, v_ntN, v_not, v_tru, v_asB, v_and, v_or, v_if, v_tup, v_nil, v_cons, v_sub, v_onone, v_osome, v_slice, v_call, v_glb, v_ofE, v_disp, v_cat, v_bi1, v_biL, v_isi, v_inS, v_sidx, v_join, v_subL, v_new, v_dct, v_lenSet, v_attr, v_meth, v_nox, v_dct0, v_dcp, v_dget, v_dpop, v_chain, v_tupE, v_min2, v_listT, v_sortS, v_neL, strE, refE, q_v_setI, q_v_setA, q_v_augA, q_v_parA, v_yes, v_itL, v_itA, v_itR1, v_itR2, v_lc, q_v_asg, q_v_par, q_v_setD, q_v_expr, q_v_app, q_v_if, q_v_for, q_v_ret, o_add, o_sub, c_lt, c_le, c_gt, c_ge, a_add, R.bind_ok, R.bind_ex, R.bind_bad, R.st_ok, R.st_ex, R.st_bad, RS.seq_nx, RS.seq_rt, RS.seq_ex, RS.seq_bk, RS.seq_ct, RS.seq_bad, optR_some, optR_none, Tg.set, setAll, asB, Lt.truthy, isNon, biLE, getL_tmp, getM_tmp, Option.isSome_some, reduceIte, if_true, if_false, Bool.false_eq_true, Option.map_some, w0, w1, w2, w3, w4, w5, w6, w7, w8, w9, w10, w11, w12, w13, w14, w15, w16, w17, w18, w19, w20, w21, w22, w23, w24, x0, x1, x2, x3, x4, x5, x6, x7, x8, x9, x10, x11, x12, x13, x14, x15, x16, x17, x18, x19, x20, x21, x22, x23, x24, z0, z1, z2, z3, z4, z5, z6, z7, z8, z9, z10, z11, z12, z13, z14, z15, z16, z17, z18, z19, z20, z21, z22, z23, z24, y0, y1, y2, y3, y4, y5, y6, y7, y8, y9, y10, y11, y12, y13, y14, y15, y16, y17, y18, y19, y20, y21, y22, y23, y24, c7_6, c_neI, decide_true, Bool.not_true, m1, ar0, c1, v_refd, m2, ar1, c2, rf01]
theorem t5 (h : DiskAt H D kd nd wd kept now w (.int (f : Int)) s) (hf : f < 4) (hN : Gd now M) (hG : Gd kept M) (hM : M ≤ 5000) (hz : getF kept "z" = []) (hw : w.length ≤ 400) (hd : ∀ d ∈ w, d.n ∈ names4 ∧ d.r.length ≤ 50) : Good (r7_5.ev (Pn 12) [s0, s1, s2, s3, some (.int s), s5, s6, s7, s8, s9, s10, s11, s12, s13, s14, some (.int (f : Int)), some (.int 0), some (.ref D), s18, s19, s20, s21] H) := by
  have hl : (rng 0 (Int.toNat 6)).length = 6 := by simp [rng]
  obtain ⟨H1, nd1, now1, v1, u11, e1, h1, hw1, hd1⟩ := burns (all := rng 0 (Int.toNat 6)) (s0 := s0) (s1 := s1) (s2 := s2) (s3 := s3) (s4 := some (.int s)) (s5 := s5) (s6 := s6) (s7 := s7) (s8 := s8) (s9 := s9) (s10 := s10) (s12 := s12) (s13 := s13) (s14 := s14) (s15 := some (.int (f : Int))) (s18 := s18) (s19 := s19) (s20 := s20) (s21 := s21) rfl f (rng 0 (Int.toNat 6)) H nd 0 M s now w kd wd s11 (by omega) h hN (by omega) (by omega) (by omega) hd
  rw [Nat.zero_add] at e1
  have e1 : forS none (rng 0 (Int.toNat 6)) _ (b7_0.ev (Pn 12)) (rng 0 (Int.toNat 6)) [s0, s1, s2, s3, some (.int s), s5, s6, s7, s8, s9, s10, s11, s12, s13, s14, some (.int (f : Int)), some (.int 0), some (.ref D), s18, s19, s20, s21] H = _ := e1
  have hin : in62 6 = true := by decide
  have e2 : b7_1.ev (Pn 12) [s0, s1, s2, s3, some (.int s), s5, s6, s7, s8, s9, s10, s11, s12, s13, s14, some (.int (f : Int)), some (.int 0), some (.ref D), s18, s19, s20, s21] H = .ex 1 [s0, s1, s2, s3, some (.int s), s5, s6, s7, s8, s9, s10, u11, s12, s13, s14, some (.int (f : Int)), some (.int (f : Int)), some (.ref D), s18, s19, s20, s21] H1 := by
    simp -implicitDefEqProofs only [Stms.ev, Stm.ev, Ex.ev, Ex.evT, Exs.ev, Exs.evAnd, Exs.evOr, Exs.evTAnd, Exs.evTOr, Ox.ev, Ox.evT, Lx.ev, It.ev, v_c, v_bin, v_cmp, v_bl, v_isN, v_ntN, v_not, v_tru, v_asB, v_and, v_or, v_if, v_tup, v_nil, v_cons, v_sub, v_onone, v_osome, v_slice, v_call, v_glb, v_ofE, v_disp, v_cat, v_bi1, v_biL, v_isi, v_inS, v_sidx, v_join, v_subL, v_new, v_dct, v_lenSet, v_attr, v_meth, v_nox, v_dct0, v_dcp, v_dget, v_dpop, v_chain, v_tupE, v_min2, v_listT, v_sortS, v_neL, strE, refE, q_v_setI, q_v_setA, q_v_augA, q_v_parA, v_yes, v_itL, v_itA, v_itR1, v_itR2, v_lc, q_v_asg, q_v_par, q_v_setD, q_v_expr, q_v_app, q_v_if, q_v_for, q_v_ret, o_add, o_sub, c_lt, c_le, c_gt, c_ge, a_add, R.bind_ok, R.bind_ex, R.bind_bad, R.st_ok, R.st_ex, R.st_bad, RS.seq_nx, RS.seq_rt, RS.seq_ex, RS.seq_bk, RS.seq_ct, RS.seq_bad, optR_some, optR_none, Tg.set, setAll, asB, Lt.truthy, isNon, biLE, getL_tmp, getM_tmp, Option.isSome_some, reduceIte, if_true, if_false, Bool.false_eq_true, Option.map_some, w0, w1, w2, w3, w4, w5, w6, w7, w8, w9, w10, w11, w12, w13, w14, w15, w16, w17, w18, w19, w20, w21, w22, w23, w24, x0, x1, x2, x3, x4, x5, x6, x7, x8, x9, x10, x11, x12, x13, x14, x15, x16, x17, x18, x19, x20, x21, x22, x23, x24, z0, z1, z2, z3, z4, z5, z6, z7, z8, z9, z10, z11, z12, z13, z14, z15, z16, z17, z18, z19, z20, z21, z22, z23, z24, y0, y1, y2, y3, y4, y5, y6, y7, y8, y9, y10, y11, y12, y13, y14, y15, y16, y17, y18, y19, y20, y21, y22, y23, y24, b7_1, intE, hin, e1]
  have hc : cmpop .ne (.int (f : Int)) (.int (f : Int)) = some false := by
    rw [c_neI, decide_eq_true rfl]
    rfl
  rw [r7_at5]
  refine Good_seq (ρ := [s0, s1, s2, s3, some (.int s), s5, s6, s7, s8, s9, s10, u11, s12, s13, s14, some (.int (f : Int)), some (.int (f : Int)), some (.ref D), s18, s19, s20, s21]) (H := H1) ?_ (t6 h1 hG hM hz (by omega) hd1)
  exact tri_ex (P := Pn 12) e2 rfl rfl rfl hc
theorem t3 (h : Hp H D fd wr wd s kept now w) (hP : Pl kept now w t) (ht : t ≤ 40) : Good (r7_3.ev (Pn 12) [s0, some (.ref 2), some (.ref fd), some (.ref wr), some (.int s), s5, s6, s7, s8, s9, s10, s11, s12, s13, s14, s15, s16, some (.ref D), s18, s19, s20, s21] H) := by
  obtain ⟨f, H1, e1, h1, hf⟩ := h.tk (m := 4) (by omega) (by omega)
  have e1 : (Pn 12).cl 3 [.ref 2, .int 4] H = _ := e1
  obtain ⟨kd, nd, hd⟩ := h1.disk.ex
  have hfew := hP.few
  have m1 := me_fuse (k := 12) hd.at_
  have c1 : (Pn 12).cl 10 [.ref D, .int (f : Int)] H1 = .ok .non (H1.set D (DO kd nd wd (.int (f : Int)) s)) := fuse_ok (k := 11) hd
  have h2 : DiskAt (H1.set D (DO kd nd wd (.int (f : Int)) s)) D kd nd wd kept now w (.int (f : Int)) s := hd.put
  have hz : getF kept "z" = [] := by unfold getF; rw [hP.z]; rfl
  rw [r7_at3]
  refine Good_seq (ρ := [s0, some (.ref 2), some (.ref fd), some (.ref wr), some (.int s), s5, s6, s7, s8, s9, s10, s11, s12, s13, s14, some (.int (f : Int)), some (.int 0), some (.ref D), s18, s19, s20, s21]) (H := H1) ?_ ?_
  · simp -implicitDefEqProofs only [Stms.ev, Stm.ev, Ex.ev, Ex.evT, Exs.ev, Exs.evAnd, Exs.evOr, Exs.evTAnd, Exs.evTOr, Ox.ev, Ox.evT, Lx.ev, It.ev, v_c, v_bin, v_cmp, v_bl, v_isN, v_ntN, v_not, v_tru, v_asB, v_and, v_or, v_if, v_tup, v_nil, v_cons, v_sub, v_onone, v_osome, v_slice, v_call, v_glb, v_ofE, v_disp, v_cat, v_bi1, v_biL, v_isi, v_inS, v_sidx, v_join, v_subL, v_new, v_dct, v_lenSet, v_attr, v_meth, v_nox, v_dct0, v_dcp, v_dget, v_dpop, v_chain, v_tupE, v_min2, v_listT, v_sortS, v_neL, strE, refE, q_v_setI, q_v_setA, q_v_augA, q_v_parA, v_yes, v_itL, v_itA, v_itR1, v_itR2, v_lc, q_v_asg, q_v_par, q_v_setD, q_v_expr, q_v_app, q_v_if, q_v_for, q_v_ret, o_add, o_sub, c_lt, c_le, c_gt, c_ge, a_add, R.bind_ok, R.bind_ex, R.bind_bad, R.st_ok, R.st_ex, R.st_bad, RS.seq_nx, RS.seq_rt, RS.seq_ex, RS.seq_bk, RS.seq_ct, RS.seq_bad, optR_some, optR_none, Tg.set, setAll, asB, Lt.truthy, isNon, biLE, getL_tmp, getM_tmp, Option.isSome_some, reduceIte, if_true, if_false, Bool.false_eq_true, Option.map_some, w0, w1, w2, w3, w4, w5, w6, w7, w8, w9, w10, w11, w12, w13, w14, w15, w16, w17, w18, w19, w20, w21, w22, w23, w24, x0, x1, x2, x3, x4, x5, x6, x7, x8, x9, x10, x11, x12, x13, x14, x15, x16, x17, x18, x19, x20, x21, x22, x23, x24, z0, z1, z2, z3, z4, z5, z6, z7, z8, z9, z10, z11, z12, z13, z14, z15, z16, z17, z18, z19, z20, z21, z22, z23, z24, y0, y1, y2, y3, y4, y5, y6, y7, y8, y9, y10, y11, y12, y13, y14, y15, y16, y17, y18, y19, y20, y21, y22, y23, y24, c7_3, e1]
  rw [r7_at4]
  refine Good_seq (ρ := [s0, some (.ref 2), some (.ref fd), some (.ref wr), some (.int s), s5, s6, s7, s8, s9, s10, s11, s12, s13, s14, some (.int (f : Int)), some (.int 0), some (.ref D), s18, s19, s20, s21]) (H := H1.set D (DO kd nd wd (.int (f : Int)) s)) ?_ (t5 h2 hf hP.gn hP.gk' (by omega) hz (by omega) hP.own4)
  simp -implicitDefEqProofs only [Stms.ev, Stm.ev, Ex.ev, Ex.evT, Exs.ev, Exs.evAnd, Exs.evOr, Exs.evTAnd, Exs.evTOr, Ox.ev, Ox.evT, Lx.ev, It.ev, v_c, v_bin, v_cmp, v_bl, v_isN, v_ntN, v_not, v_tru, v_asB, v_and, v_or, v_if, v_tup, v_nil, v_cons, v_sub, v_onone, v_osome, v_slice, v_call, v_glb, v_ofE, v_disp, v_cat, v_bi1, v_biL, v_isi, v_inS, v_sidx, v_join, v_subL, v_new, v_dct, v_lenSet, v_attr, v_meth, v_nox, v_dct0, v_dcp, v_dget, v_dpop, v_chain, v_tupE, v_min2, v_listT, v_sortS, v_neL, strE, refE, q_v_setI, q_v_setA, q_v_augA, q_v_parA, v_yes, v_itL, v_itA, v_itR1, v_itR2, v_lc, q_v_asg, q_v_par, q_v_setD, q_v_expr, q_v_app, q_v_if, q_v_for, q_v_ret, o_add, o_sub, c_lt, c_le, c_gt, c_ge, a_add, R.bind_ok, R.bind_ex, R.bind_bad, R.st_ok, R.st_ex, R.st_bad, RS.seq_nx, RS.seq_rt, RS.seq_ex, RS.seq_bk, RS.seq_ct, RS.seq_bad, optR_some, optR_none, Tg.set, setAll, asB, Lt.truthy, isNon, biLE, getL_tmp, getM_tmp, Option.isSome_some, reduceIte, if_true, if_false, Bool.false_eq_true, Option.map_some, w0, w1, w2, w3, w4, w5, w6, w7, w8, w9, w10, w11, w12, w13, w14, w15, w16, w17, w18, w19, w20, w21, w22, w23, w24, x0, x1, x2, x3, x4, x5, x6, x7, x8, x9, x10, x11, x12, x13, x14, x15, x16, x17, x18, x19, x20, x21, x22, x23, x24, z0, z1, z2, z3, z4, z5, z6, z7, z8, z9, z10, z11, z12, z13, z14, z15, z16, z17, z18, z19, z20, z21, z22, z23, z24, y0, y1, y2, y3, y4, y5, y6, y7, y8, y9, y10, y11, y12, y13, y14, y15, y16, y17, y18, y19, y20, y21, y22, y23, y24, c7_4, m1, ar1, c1]
theorem t2 (h : Hp H D fd wr wd s kept now w) (hP : Pl kept now w 0) : Good (r7_2.ev (Pn 12) [s0, some (.ref 2), some (.ref fd), some (.ref wr), some (.int s), s5, s6, s7, s8, s9, s10, s11, s12, s13, s14, s15, s16, some (.ref D), s18, s19, s20, s21] H) := by
  obtain ⟨c, H1, e1, h1, hc⟩ := h.tk (m := 30) (by omega) (by omega)
  have e1 : (Pn 12).cl 3 [.ref 2, .int 30] H = _ := e1
  have hin : in62 (c : Int) = true := in62_nat (by omega)
  have hl : (rng 0 c).length = c := by simp [rng]
  obtain ⟨H2, fd', wr', wd', s', kept', now', w', u5, u6, u7, u8, u9, u10, u12, u13, u14, e2, h2, hP2⟩ := turns (all := rng 0 c) (s0 := s0) (s11 := s11) (s15 := s15) (s16 := s16) (s18 := s18) (s19 := s19) (s20 := s20) (s21 := s21) rfl (rng 0 c) H1 fd wr wd 0 s kept now w s5 s6 s7 s8 s9 s10 s12 s13 s14 h1 hP (by omega)
  rw [r7_at2]
  refine Good_seq (ρ := [s0, some (.ref 2), some (.ref fd'), some (.ref wr'), some (.int s'), u5, u6, u7, u8, u9, u10, s11, u12, u13, u14, s15, s16, some (.ref D), s18, s19, s20, s21]) (H := H2) ?_ (t3 h2 hP2 (by omega))
  simp -implicitDefEqProofs only [Stms.ev, Stm.ev, Ex.ev, Ex.evT, Exs.ev, Exs.evAnd, Exs.evOr, Exs.evTAnd, Exs.evTOr, Ox.ev, Ox.evT, Lx.ev, It.ev, v_c, v_bin, v_cmp, v_bl, v_isN, v_ntN, v_not, v_tru, v_asB, v_and, v_or, v_if, v_tup, v_nil, v_cons, v_sub, v_onone, v_osome, v_slice, v_call, v_glb, v_ofE, v_disp, v_cat, v_bi1, v_biL, v_isi, v_inS, v_sidx, v_join, v_subL, v_new, v_dct, v_lenSet, v_attr, v_meth, v_nox, v_dct0, v_dcp, v_dget, v_dpop, v_chain, v_tupE, v_min2, v_listT, v_sortS, v_neL, strE, refE, q_v_setI, q_v_setA, q_v_augA, q_v_parA, v_yes, v_itL, v_itA, v_itR1, v_itR2, v_lc, q_v_asg, q_v_par, q_v_setD, q_v_expr, q_v_app, q_v_if, q_v_for, q_v_ret, o_add, o_sub, c_lt, c_le, c_gt, c_ge, a_add, R.bind_ok, R.bind_ex, R.bind_bad, R.st_ok, R.st_ex, R.st_bad, RS.seq_nx, RS.seq_rt, RS.seq_ex, RS.seq_bk, RS.seq_ct, RS.seq_bad, optR_some, optR_none, Tg.set, setAll, asB, Lt.truthy, isNon, biLE, getL_tmp, getM_tmp, Option.isSome_some, reduceIte, if_true, if_false, Bool.false_eq_true, Option.map_some, w0, w1, w2, w3, w4, w5, w6, w7, w8, w9, w10, w11, w12, w13, w14, w15, w16, w17, w18, w19, w20, w21, w22, w23, w24, x0, x1, x2, x3, x4, x5, x6, x7, x8, x9, x10, x11, x12, x13, x14, x15, x16, x17, x18, x19, x20, x21, x22, x23, x24, z0, z1, z2, z3, z4, z5, z6, z7, z8, z9, z10, z11, z12, z13, z14, z15, z16, z17, z18, z19, z20, z21, z22, z23, z24, y0, y1, y2, y3, y4, y5, y6, y7, y8, y9, y10, y11, y12, y13, y14, y15, y16, y17, y18, y19, y20, y21, y22, y23, y24, c7_2, e1, intE, hin, Int.toNat_natCast, e2]
theorem t1 (hT : IsT 2 1 H) : Good (r7_1.ev (Pn 12) [s0, some (.ref 2), s2, s3, s4, s5, s6, s7, s8, s9, s10, s11, s12, s13, s14, s15, s16, s17, s18, s19, s20, s21] H) := by
  obtain ⟨H1, kd, nd, wd, e1, h1, hU, hw⟩ := init_ok (H := H) (k := 11)
  have e1 : (Pn 12).cl 8 [.ref H.length] (H ++ [.ins "Disk" []]) = .ok .non H1 := e1
  have ci := ci_disk (k := 12)
  have hl := hT.lt
  have hwd := (List.getElem?_eq_some_iff.mp h1.wait).1
  have hT1 : IsT 2 1 H1 := hT.keep (hU.2 2 hl.1) (hU.2 1 hl.2)
  have hh : Hp (H1 ++ [Ob.dct []] ++ [Ob.lst []]) H.length H1.length (H1 ++ [Ob.dct []]).length wd 0 [] [] [] :=
    ⟨hT1.app.app, ⟨kd, nd, h1.app.app⟩, get_app get_new, get_new, by omega, by rw [List.length_append]; omega⟩
  rw [r7_at1]
  refine Good_seq (ρ := [s0, some (.ref 2), some (.ref H1.length), some (.ref (H1 ++ [Ob.dct []]).length), some (.int 0), s5, s6, s7, s8, s9, s10, s11, s12, s13, s14, s15, s16, some (.ref H.length), s18, s19, s20, s21]) (H := H1 ++ [Ob.dct []] ++ [Ob.lst []]) ?_ (t2 hh Pl.nil)
  simp -implicitDefEqProofs only [Stms.ev, Stm.ev, Ex.ev, Ex.evT, Exs.ev, Exs.evAnd, Exs.evOr, Exs.evTAnd, Exs.evTOr, Ox.ev, Ox.evT, Lx.ev, It.ev, v_c, v_bin, v_cmp, v_bl, v_isN, v_ntN, v_not, v_tru, v_asB, v_and, v_or, v_if, v_tup, v_nil, v_cons, v_sub, v_onone, v_osome, v_slice, v_call, v_glb, v_ofE, v_disp, v_cat, v_bi1, v_biL, v_isi, v_inS, v_sidx, v_join, v_subL, v_new, v_dct, v_lenSet, v_attr, v_meth, v_nox, v_dct0, v_dcp, v_dget, v_dpop, v_chain, v_tupE, v_min2, v_listT, v_sortS, v_neL, strE, refE, q_v_setI, q_v_setA, q_v_augA, q_v_parA, v_yes, v_itL, v_itA, v_itR1, v_itR2, v_lc, q_v_asg, q_v_par, q_v_setD, q_v_expr, q_v_app, q_v_if, q_v_for, q_v_ret, o_add, o_sub, c_lt, c_le, c_gt, c_ge, a_add, R.bind_ok, R.bind_ex, R.bind_bad, R.st_ok, R.st_ex, R.st_bad, RS.seq_nx, RS.seq_rt, RS.seq_ex, RS.seq_bk, RS.seq_ct, RS.seq_bad, optR_some, optR_none, Tg.set, setAll, asB, Lt.truthy, isNon, biLE, getL_tmp, getM_tmp, Option.isSome_some, reduceIte, if_true, if_false, Bool.false_eq_true, Option.map_some, w0, w1, w2, w3, w4, w5, w6, w7, w8, w9, w10, w11, w12, w13, w14, w15, w16, w17, w18, w19, w20, w21, w22, w23, w24, x0, x1, x2, x3, x4, x5, x6, x7, x8, x9, x10, x11, x12, x13, x14, x15, x16, x17, x18, x19, x20, x21, x22, x23, x24, z0, z1, z2, z3, z4, z5, z6, z7, z8, z9, z10, z11, z12, z13, z14, z15, z16, z17, z18, z19, z20, z21, z22, z23, z24, y0, y1, y2, y3, y4, y5, y6, y7, y8, y9, y10, y11, y12, y13, y14, y15, y16, y17, y18, y19, y20, y21, y22, y23, y24, c7_1, v_make, ci, ar0, e1, ln0, ln4]
end
theorem law_ok {ns : List Int} (hn : ns.length ≤ 63) : ∃ G', Lt.callF K02.G.toTb (12 + 1) 7 [.ref 0] [.rol (ns.map Lt.E.int)] = .ok (.bl true) G' := by
  obtain ⟨H2, e, hT, _⟩ := law_tape_ok (k := 11) hn
  have e : (Pn 12).cl 2 [.ref 0] [.rol (ns.map E.int)] = .ok (.ref 2) H2 := e
  obtain ⟨H3, e3⟩ := t1 (s0 := some (.ref 0)) (s2 := none) (s3 := none) (s4 := none) (s5 := none) (s6 := none) (s7 := none) (s8 := none) (s9 := none) (s10 := none) (s11 := none) (s12 := none) (s13 := none) (s14 := none) (s15 := none) (s16 := none) (s17 := none) (s18 := none) (s19 := none) (s20 := none) (s21 := none) hT
  refine ⟨H3, ?_⟩
  show cl (12 + 1) 7 [.ref 0] [.rol (ns.map E.int)] = _
  rw [cl_succ (fn := f7) rfl rfl]
  show endR false [.rol (ns.map E.int)] (b7.ev (Pn 12) [some (.ref 0), none, none, none, none, none, none, none, none, none, none, none, none, none, none, none, none, none, none, none, none, none] [.rol (ns.map E.int)]) = _
  have a0 : c7_0.ev (Pn 12) [some (.ref 0), none, none, none, none, none, none, none, none, none, none, none, none, none, none, none, none, none, none, none, none, none] [.rol (ns.map E.int)] = .nx [some (.ref 0), some (.ref 2), none, none, none, none, none, none, none, none, none, none, none, none, none, none, none, none, none, none, none, none] H2 := by
    simp -implicitDefEqProofs only [Stms.ev, Stm.ev, Ex.ev, Ex.evT, Exs.ev, Exs.evAnd, Exs.evOr, Exs.evTAnd, Exs.evTOr, Ox.ev, Ox.evT, Lx.ev, It.ev, v_c, v_bin, v_cmp, v_bl, v_isN, v_ntN, v_not, v_tru, v_asB, v_and, v_or, v_if, v_tup, v_nil, v_cons, v_sub, v_onone, v_osome, v_slice, v_call, v_glb, v_ofE, v_disp, v_cat, v_bi1, v_biL, v_isi, v_inS, v_sidx, v_join, v_subL, v_new, v_dct, v_lenSet, v_attr, v_meth, v_nox, v_dct0, v_dcp, v_dget, v_dpop, v_chain, v_tupE, v_min2, v_listT, v_sortS, v_neL, strE, refE, q_v_setI, q_v_setA, q_v_augA, q_v_parA, v_yes, v_itL, v_itA, v_itR1, v_itR2, v_lc, q_v_asg, q_v_par, q_v_setD, q_v_expr, q_v_app, q_v_if, q_v_for, q_v_ret, o_add, o_sub, c_lt, c_le, c_gt, c_ge, a_add, R.bind_ok, R.bind_ex, R.bind_bad, R.st_ok, R.st_ex, R.st_bad, RS.seq_nx, RS.seq_rt, RS.seq_ex, RS.seq_bk, RS.seq_ct, RS.seq_bad, optR_some, optR_none, Tg.set, setAll, asB, Lt.truthy, isNon, biLE, getL_tmp, getM_tmp, Option.isSome_some, reduceIte, if_true, if_false, Bool.false_eq_true, Option.map_some, w0, w1, w2, w3, w4, w5, w6, w7, w8, w9, w10, w11, w12, w13, w14, w15, w16, w17, w18, w19, w20, w21, w22, w23, w24, x0, x1, x2, x3, x4, x5, x6, x7, x8, x9, x10, x11, x12, x13, x14, x15, x16, x17, x18, x19, x20, x21, x22, x23, x24, z0, z1, z2, z3, z4, z5, z6, z7, z8, z9, z10, z11, z12, z13, z14, z15, z16, z17, z18, z19, z20, z21, z22, z23, z24, y0, y1, y2, y3, y4, y5, y6, y7, y8, y9, y10, y11, y12, y13, y14, y15, y16, y17, y18, y19, y20, y21, y22, y23, y24, c7_0, e]
  rw [r7_eq, r7_at0, a0, RS.seq_nx, e3]
  rfl
end K02
end
set_option Elab.async false
theorem PySem.Challenge.cw_nothinglost_k02_disks_that_lose_holds : PySem.Challenge.rw_nothinglost_k02_disks_that_lose.Holds := by
  exact K02.holds_of fun ns h _ => K02.law_ok h
