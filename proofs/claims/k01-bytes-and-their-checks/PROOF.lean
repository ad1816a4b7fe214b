import PyProof.Rows.All
import Wide.All
import OpenK.AllK
import Wide.FinOn
import HandS.ForMost
import HandS.ForExc
import HandS.StrMore
import HandS.TupAny
import HandS.Lambda
import KE.DataEq
import HandS.CallSlots
import HandS.TupMul
import HandS.IsInst
import HandS.Walk
import HandS.Defaults
import HandS.ExcOwn
import HandS.Strs
import HandS.Keys
import KE.SortData
import PyProof.ListStr
import HandS.WordsExc
import HandS.HeadHook1
import HandS.HeadHook2
import HandS.HeadHook3
import HandS.HeadHook4
import HandS.HeadWalk
import HandS.Head0
import HandS.Head1
import HandS.Head2
import HandS.HeadEnd
import PySem.Challenge.RW_nothinglost_k01_bytes_and_their_checks
section
set_option Elab.async false
set_option linter.all false
set_option maxRecDepth 100000
/-! Lt: a small language with places for names, its meaning as plain functions, and how it is written in the model's syntax. -/
namespace Lt
open PySem L2

/-! ### data -/
inductive E where
  | non | bl (b : Bool) | int (i : Int) | str (x : Str) | tup (es : List E) | ref (n : Nat)
inductive Ob where
  | lst (es : List E)
  | rol (es : List E)
  | dct (kvs : List (Str × E))
abbrev Hq := List Ob
abbrev Ro := List (Option E)
inductive R (α : Type) where
  | ok (a : α) (G : Hq)
  | ex (c : Nat) (G : Hq)
  | bad
inductive RS where
  | nx (ρ : Ro) (G : Hq)
  | rt (v : E) (G : Hq)
  | bk (ρ : Ro) (G : Hq)
  | ct (ρ : Ro) (G : Hq)
  | ex (c : Nat) (ρ : Ro) (G : Hq)
  | bad
def R.bind {α β : Type} (r : R α) (f : α → Hq → R β) : R β := match r with
  | .ok a G => f a G
  | .ex c G => .ex c G
  | .bad => .bad
@[simp] theorem R.bind_ok {α β : Type} (a : α) (G : Hq) (f : α → Hq → R β) : (R.ok a G).bind f = f a G := rfl
@[simp] theorem R.bind_ex {α β : Type} (c : Nat) (G : Hq) (f : α → Hq → R β) : (R.ex c G).bind f = .ex c G := rfl
@[simp] theorem R.bind_bad {α β : Type} (f : α → Hq → R β) : (R.bad : R α).bind f = .bad := rfl

/-! ### syntax -/
inductive BOp where | add | sub | mul | fdiv | mod
inductive COp where | eq | ne | lt | le | gt | ge
/-- a built-in of one value -/
inductive B1 where | len | abs | int
/-- a built-in of one list -/
inductive BL where | tup | all
/-- a type's name -/
inductive TyN where | str | tup
/-- a name that is stored -/
structure Nm where
  i : Nat
  x : Str
  p : Pos
inductive Tg where
  | name (n : Nm)
  | tup (ns : List Nm) (k : Nat) (p : Pos)
mutual
inductive Ex where
  | var (i : Nat) (x : Str) (p : Pos)
  | glb (j : Nat) (x : Str) (p : Pos)
  | int (i : Int) (k : Nat) (p : Pos)
  | bl (b : Bool) (k : Nat) (p : Pos)
  | non (k : Nat) (p : Pos)
  | str (x : Str) (k : Nat) (p : Pos)
  | bin (o : BOp) (a b : Ex) (p : Pos)
  | cmp (o : COp) (a b : Ex) (p : Pos)
  | isN (a : Ex) (k : Nat) (p1 p : Pos)
  | ntN (a : Ex) (k : Nat) (p1 p : Pos)
  | not (a : Ex) (p : Pos)
  | and (es : Exs) (p : Pos)
  | or (es : Exs) (p : Pos)
  | ifx (c a b : Ex) (p : Pos)
  | tup (es : Exs) (k : Nat) (p : Pos)
  | sub (a i : Ex) (p : Pos)
  | slice (a : Ex) (lo hi : Ox) (p1 p : Pos)
  | call (f : Nat) (x : Str) (es : Exs) (p1 p : Pos)
  | bi1 (b : B1) (a : Ex) (p1 p : Pos)
  | biL (b : BL) (l : Lx) (p1 p : Pos)
  | isi (a : Ex) (t : TyN) (p1 p2 p : Pos)
  | inS (a b : Ex) (p : Pos)
  | sidx (a b : Ex) (p1 p : Pos)
  | join (a : Ex) (l : Lx) (p1 p : Pos)
  | subL (l : Lx) (i : Ex) (p : Pos)
  | new (l : Lx)
  | dct (ks : List (Str × Nat × Pos)) (es : Exs) (p : Pos)
  | lenSet (a : Ex) (p1 p2 p3 p : Pos)
  | neL (l1 l2 : Lx) (p : Pos)
  | refd (g : Nat) (x : Str) (e : Ex) (sc : Scope) (p1 p2 p : Pos)
inductive Exs where
  | nil
  | cons (e : Ex) (r : Exs)
inductive Ox where
  | none
  | some (e : Ex)
/-- a list that is made on the way, or one that stands -/
inductive Lx where
  | ofE (e : Ex)
  | disp (es : Exs) (p : Pos)
  | cat (a b : Lx) (p : Pos)
  | listS (a : Ex) (p1 p : Pos)
  | sortS (a : Ex) (p1 p : Pos)
  | lc (e : Ex) (t : Tg) (it : It) (c : Ox) (sc : Scope) (own : List (Str × Nat)) (p : Pos)
/-- what is walked -/
inductive It where
  | l (l : Lx)
  | a (e : Ex)
  | r1 (a : Ex) (p1 p : Pos)
  | r2 (a b : Ex) (p1 p : Pos)
end
mutual
inductive Stm where
  | asg (t : Tg) (e : Ex) (p : Pos)
  | asgL (n : Nm) (l : Lx) (p : Pos)
  | par (a b : Nm) (e f : Ex) (k1 k2 : Nat) (p1 p2 p : Pos)
  | aug (o : BOp) (n : Nm) (e : Ex) (p : Pos)
  | setD (o k e : Ex) (p1 p : Pos)
  | expr (e : Ex) (p : Pos)
  | app (o e : Ex) (p1 p2 p : Pos)
  | ifs (c : Ex) (a b : Stms) (p : Pos)
  | forr (t : Tg) (it : It) (b : Stms) (p : Pos)
  | whil (c : Ex) (b : Stms) (p : Pos)
  | ret (e : Ex) (p : Pos)
  | retN (p : Pos)
  | rais (c : Nat) (x m : Str) (k : Nat) (p1 p2 p3 p : Pos)
  | pas (p : Pos)
  | brk (p : Pos)
  | cont (p : Pos)
inductive Stms where
  | nil
  | cons (s : Stm) (r : Stms)
end

def BOp.py : BOp → Operator
  | .add => .Add | .sub => .Sub | .mul => .Mult | .fdiv => .FloorDiv | .mod => .Mod
def COp.py : COp → CmpOp
  | .eq => .Eq | .ne => .NotEq | .lt => .Lt | .le => .LtE | .gt => .Gt | .ge => .GtE
def B1.name : B1 → Str
  | .len => "len" | .abs => "abs" | .int => "int"
def BL.name : BL → Str
  | .tup => "tuple" | .all => "all"
def TyN.name : TyN → Str
  | .str => "str" | .tup => "tuple"
def Nm.py (n : Nm) : Expr := .Name n.x n.p
def Tg.py : Tg → Expr
  | .name n => n.py
  | .tup ns k p => .Tuple (ns.map Nm.py) k p
mutual
def Ex.py : Ex → Expr
  | .var _ x p => .Name x p
  | .glb _ x p => .Name x p
  | .int i k p => .Constant (.int i) k p
  | .bl b k p => .Constant (.bool b) k p
  | .non k p => .Constant .none k p
  | .str x k p => .Constant (.str x) k p
  | .bin o a b p => .BinOp a.py o.py b.py p
  | .cmp o a b p => .Compare a.py [o.py] [b.py] p
  | .isN a k p1 p => .Compare a.py [.Is] [.Constant .none k p1] p
  | .ntN a k p1 p => .Compare a.py [.IsNot] [.Constant .none k p1] p
  | .not a p => .UnaryOp .Not a.py p
  | .and es p => .BoolOp .And es.py p
  | .or es p => .BoolOp .Or es.py p
  | .ifx c a b p => .IfExp c.py a.py b.py p
  | .tup es k p => .Tuple es.py k p
  | .sub a i p => .Subscript a.py i.py p
  | .slice a lo hi p1 p => .Subscript a.py (.Slice lo.py hi.py none p1) p
  | .call _ x es p1 p => .Call (.Name x p1) es.py [] p
  | .bi1 b a p1 p => .Call (.Name b.name p1) [a.py] [] p
  | .biL b l p1 p => .Call (.Name b.name p1) [l.py] [] p
  | .isi a t p1 p2 p => .Call (.Name "isinstance" p1) [a.py, .Name t.name p2] [] p
  | .inS a b p => .Compare a.py [.In] [b.py] p
  | .sidx a b p1 p => .Call (.Attribute a.py "index" p1) [b.py] [] p
  | .join a l p1 p => .Call (.Attribute a.py "join" p1) [l.py] [] p
  | .subL l i p => .Subscript l.py i.py p
  | .new l => l.py
  | .dct ks es p => .Dict (ks.map fun k => some (.Constant (.str k.1) k.2.1 k.2.2)) es.py p
  | .lenSet a p1 p2 p3 p => .Call (.Name "len" p1) [.Call (.Name "set" p2) [a.py] [] p3] [] p
  | .neL l1 l2 p => .Compare l1.py [.NotEq] [l2.py] p
  | .refd _ x e sc p1 p2 p => .Call (.Name x p1) [.Lambda ⟨[], [], none, [], [], none, []⟩ e.py sc p2] [] p
def Exs.py : Exs → List Expr
  | .nil => []
  | .cons e r => e.py :: r.py
def Ox.py : Ox → Option Expr
  | .none => Option.none
  | .some e => Option.some e.py
def Ox.pys : Ox → List Expr
  | .none => []
  | .some e => [e.py]
def Lx.py : Lx → Expr
  | .ofE e => e.py
  | .disp es p => .List es.py p
  | .cat a b p => .BinOp a.py .Add b.py p
  | .listS a p1 p => .Call (.Name "list" p1) [a.py] [] p
  | .sortS a p1 p => .Call (.Name "sorted" p1) [a.py] [] p
  | .lc e t it c sc _ p => .ListComp e.py [⟨t.py, it.py, c.pys, 0⟩] sc p
def It.py : It → Expr
  | .l l => l.py
  | .a e => e.py
  | .r1 a p1 p => .Call (.Name "range" p1) [a.py] [] p
  | .r2 a b p1 p => .Call (.Name "range" p1) [a.py, b.py] [] p
end
mutual
def Stm.py : Stm → Stmt
  | .asg t e p => .Assign [t.py] e.py p
  | .asgL n l p => .Assign [n.py] l.py p
  | .par a b e f k1 k2 p1 p2 p => .Assign [.Tuple [a.py, b.py] k1 p1] (.Tuple [e.py, f.py] k2 p2) p
  | .aug o n e p => .AugAssign n.py o.py e.py p
  | .setD o k e p1 p => .Assign [.Subscript o.py k.py p1] e.py p
  | .expr e p => .Expr e.py p
  | .app o e p1 p2 p => .Expr (.Call (.Attribute o.py "append" p1) [e.py] [] p2) p
  | .ifs c a b p => .If c.py a.py b.py p
  | .forr t it b p => .For t.py it.py b.py [] p
  | .whil c b p => .While c.py b.py [] p
  | .ret e p => .Return (some e.py) p
  | .retN p => .Return none p
  | .rais _ x m k p1 p2 p3 p => .Raise (some (.Call (.Name x p1) [.Constant (.str m) k p2] [] p3)) none p
  | .pas p => .Pass p
  | .brk p => .Break p
  | .cont p => .Continue p
def Stms.py : Stms → List Stmt
  | .nil => []
  | .cons s r => s.py :: r.py
end
/-! ### values -/
mutual
def E.dat : E → Option PyData
  | .non => some .none
  | .bl b => some (.bool b)
  | .int i => some (.int i)
  | .str x => some (.str x)
  | .tup es => (E.dats es).map .tuple
  | .ref _ => none
def E.dats : List E → Option (List PyData)
  | [] => some []
  | e :: r => match e.dat, E.dats r with
    | some d, some ds => some (d :: ds)
    | _, _ => none
end
def mulOk (i j : Int) : Bool := decide (-(2 ^ 64) < i ∧ i < 2 ^ 64) || decide (-(2 ^ 64) < j ∧ j < 2 ^ 64)
def binop : BOp → E → E → Option E
  | .add, .int i, .int j => some (.int (i + j))
  | .add, .str x, .str y => if x.length + y.length ≤ sizeLine then some (.str (x ++ y)) else none
  | .add, .tup xs, .tup ys => if xs.length + ys.length ≤ sizeLine then some (.tup (xs ++ ys)) else none
  | .sub, .int i, .int j => some (.int (i - j))
  | .mul, .int i, .int j => if mulOk i j then some (.int (i * j)) else none
  | .mul, .tup xs, .int k => if xs ≠ [] ∧ 2 ≤ k ∧ k ≤ 10000 ∧ xs.length ≤ 1000 then some (.tup (List.replicate k.toNat xs).flatten) else none
  | .fdiv, .int i, .int j => if j ≠ 0 ∧ j.natAbs < 1073741824 then some (.int (i.fdiv j)) else none
  | .mod, .int i, .int j => if j ≠ 0 then some (.int (i.fmod j)) else none
  | _, _, _ => none
def eqE (x y : E) : Option Bool := match x.dat, y.dat with
  | some d, some e => if d.depth ≤ 64 ∨ e.depth ≤ 64 then some (PyData.eqv d e) else none
  | _, _ => none
def cmpop : COp → E → E → Option Bool
  | .eq, x, y => eqE x y
  | .ne, x, y => (eqE x y).map (!·)
  | .lt, .int i, .int j => some (decide (i < j))
  | .le, .int i, .int j => some (decide (i ≤ j))
  | .gt, .int i, .int j => some (decide (i > j))
  | .ge, .int i, .int j => some (decide (i ≥ j))
  | _, _, _ => none
def optR {α : Type} (o : Option α) (G : Hq) : R α := match o with
  | some a => .ok a G
  | none => .bad
@[simp] theorem optR_some {α : Type} (a : α) (G : Hq) : optR (some a) G = .ok a G := rfl
@[simp] theorem optR_none {α : Type} (G : Hq) : optR (none : Option α) G = .bad := rfl
def truthy : E → Option Bool
  | .bl b => some b
  | .int i => some (i != 0)
  | .str x => if x.length ≤ sizeLine then some (x.length != 0) else none
  | .tup es => some (!es.isEmpty)
  | .non => some false
  | _ => none
/-! ### meaning -/
structure Par where
  cl : Nat → List E → Hq → R E
  gl : Nat → Option E
  rf : Nat → Nat → Bool
  wf : Nat
abbrev Sx (α : Type) := Ro → Hq → R α
def sVar (i : Nat) : Sx E := fun ρ G => match ρ[i]? with
  | some (some v) => .ok v G
  | _ => .bad
def sBin (o : BOp) (a b : Sx E) : Sx E := fun ρ G => (a ρ G).bind fun x G1 => (b ρ G1).bind fun y G2 => optR (binop o x y) G2
def sCmp (o : COp) (a b : Sx E) : Sx Bool := fun ρ G => (a ρ G).bind fun x G1 => (b ρ G1).bind fun y G2 => optR (cmpop o x y) G2
def isNon : E → Bool
  | .non => true
  | _ => false
def sBl (a : Sx Bool) : Sx E := fun ρ G => (a ρ G).bind fun b G1 => .ok (.bl b) G1
def sIsN (a : Sx E) : Sx Bool := fun ρ G => (a ρ G).bind fun x G1 => .ok (isNon x) G1
def sNtN (a : Sx E) : Sx Bool := fun ρ G => (a ρ G).bind fun x G1 => .ok (!isNon x) G1
def sNot (a : Sx Bool) : Sx Bool := fun ρ G => (a ρ G).bind fun b G1 => .ok (!b) G1
def sTru (a : Sx E) : Sx Bool := fun ρ G => (a ρ G).bind fun x G1 => optR (truthy x) G1
/-- a bool alone -/
def asB : E → Option Bool
  | .bl b => some b
  | _ => none
def sAsB (a : Sx E) : Sx Bool := fun ρ G => (a ρ G).bind fun x G1 => optR (asB x) G1
def sAnd (a b : Sx Bool) : Sx Bool := fun ρ G => (a ρ G).bind fun x G1 => if x then b ρ G1 else .ok false G1
def sOr (a b : Sx Bool) : Sx Bool := fun ρ G => (a ρ G).bind fun x G1 => if x then .ok true G1 else b ρ G1
def sIf (c : Sx Bool) (a b : Sx E) : Sx E := fun ρ G => (c ρ G).bind fun x G1 => if x then a ρ G1 else b ρ G1
def sTup (a : Sx (List E)) : Sx E := fun ρ G => (a ρ G).bind fun xs G1 => if xs.length ≤ sizeLine then .ok (.tup xs) G1 else .bad
def sNil : Sx (List E) := fun _ G => .ok [] G
def sCons (a : Sx E) (r : Sx (List E)) : Sx (List E) := fun ρ G => (a ρ G).bind fun x G1 => (r ρ G1).bind fun xs G2 => .ok (x :: xs) G2
/-- x[i] by values -/
def subE (G : Hq) : E → E → Option E
  | .tup xs, .int i => atI xs i
  | .str z, .int i => if z.length ≤ sizeLine then (atI z.cps.toList i).map fun c => .str ⟨#[c]⟩ else none
  | .ref n, .int i => match G[n]? with
    | some (.lst xs) => atI xs i
    | some (.rol xs) => atI xs i
    | _ => none
  | .ref n, .str k => match G[n]? with
    | some (.dct kvs) => kvs.lookup k
    | _ => none
  | _, _ => none
def sSub (a i : Sx E) : Sx E := fun ρ G => (a ρ G).bind fun x G1 => (i ρ G1).bind fun y G2 => optR (subE G2 x y) G2
def sOnone : Sx (Option Int) := fun _ G => .ok none G
def sOsome (a : Sx E) : Sx (Option Int) := fun ρ G => (a ρ G).bind fun x G1 => match x with
  | .int i => .ok (some i) G1
  | _ => .bad
def cutE (lo hi : Option Int) : E → Option E
  | .tup xs => some (.tup ((xs.drop (HT.sIx xs.length 0 lo)).take (HT.sIx xs.length xs.length hi - HT.sIx xs.length 0 lo)))
  | .str z => if z.length ≤ sizeLine then some (.str (cutS z lo hi)) else none
  | _ => none
def sSlice (a : Sx E) (lo hi : Sx (Option Int)) : Sx E := fun ρ G => (a ρ G).bind fun x G1 => (lo ρ G1).bind fun l G2 => (hi ρ G2).bind fun h G3 => optR (cutE l h x) G3
def sCall (P : Par) (f : Nat) (a : Sx (List E)) : Sx E := fun ρ G => (a ρ G).bind fun xs G1 => P.cl f xs G1
def sGlb (P : Par) (j : Nat) : Sx E := fun _ G => optR (P.gl j) G
def sC (v : E) : Sx E := fun _ G => .ok v G
/-! lists on the way -/
inductive LH where
  | tmp (es : List E)
  | pl (n : Nat)
def LH.get (G : Hq) : LH → Option (List E)
  | .tmp es => some es
  | .pl n => match G[n]? with
    | some (.lst xs) => some xs
    | some (.rol xs) => some xs
    | _ => none
/-- one that is the program's own to write -/
def LH.getM (G : Hq) : LH → Option (List E)
  | .tmp es => some es
  | .pl n => match G[n]? with
    | some (.lst xs) => some xs
    | _ => none
def sOfE (a : Sx E) : Sx LH := fun ρ G => (a ρ G).bind fun x G1 => match x with
  | .ref n => if (LH.get G1 (.pl n)).isSome then .ok (.pl n) G1 else .bad
  | _ => .bad
def sDisp (a : Sx (List E)) : Sx LH := fun ρ G => (a ρ G).bind fun xs G1 => if xs.length ≤ sizeLine then .ok (.tmp xs) G1 else .bad
def sCat (a b : Sx LH) : Sx LH := fun ρ G => (a ρ G).bind fun x G1 => (b ρ G1).bind fun y G2 => (optR (x.getM G2) G2).bind fun xs _ => (optR (y.getM G2) G2).bind fun ys _ => if xs.length + ys.length ≤ sizeLine then .ok (.tmp (xs ++ ys)) G2 else .bad
def lenE (G : Hq) : E → Option Nat
  | .tup xs => some xs.length
  | .str x => if x.length ≤ sizeLine then some x.length else none
  | .ref n => (LH.get G (.pl n)).map List.length
  | _ => none
def bi1E (G : Hq) : B1 → E → Option E
  | .len, x => (lenE G x).map fun (n : Nat) => E.int (n : Int)
  | .abs, .int i => some (.int (if i < 0 then -i else i))
  | .int, .int i => some (.int i)
  | .int, .bl b => some (.int (if b then 1 else 0))
  | _, _ => none
def sBi1 (b : B1) (a : Sx E) : Sx E := fun ρ G => (a ρ G).bind fun x G1 => optR (bi1E G1 b x) G1
def asBs : List E → Option (List Bool)
  | [] => some []
  | e :: r => match asB e, asBs r with
    | some b, some bs => some (b :: bs)
    | _, _ => none
def biLE : BL → List E → Option E
  | .tup, xs => some (.tup xs)
  | .all, xs => (asBs xs).map fun bs => .bl (bs.all id)
def sBiL (b : BL) (l : Sx LH) : Sx E := fun ρ G => (l ρ G).bind fun x G1 => (optR (x.get G1) G1).bind fun xs _ => optR (biLE b xs) G1
def isiE : TyN → E → Option Bool
  | .str, .str _ => some true
  | .tup, .tup _ => some true
  | _, .ref _ => none
  | _, _ => some false
def sIsi (t : TyN) (a : Sx E) : Sx E := fun ρ G => (a ρ G).bind fun x G1 => (optR (isiE t x) G1).bind fun b _ => .ok (.bl b) G1
def inSE : E → E → Option Bool
  | .str a, .str z => match a.cps.toList with
    | [c] => some (decide (c ∈ z.cps.toList))
    | _ => none
  | _, _ => none
def sInS (a b : Sx E) : Sx Bool := fun ρ G => (a ρ G).bind fun x G1 => (b ρ G1).bind fun y G2 => optR (inSE x y) G2
def sidxE : E → E → Option E
  | .str a, .str b => (Txt.index0 a b).map fun k => .int (k : Nat)
  | _, _ => none
def sSidx (a b : Sx E) : Sx E := fun ρ G => (a ρ G).bind fun x G1 => match x with
  | .str z => (b ρ G1).bind fun y G2 => optR (sidxE (.str z) y) G2
  | _ => .bad
def asSs : List E → Option (List Str)
  | [] => some []
  | .str x :: r => (asSs r).map (x :: ·)
  | _ :: _ => none
def joinE (a : E) (xs : List E) : Option E := match a, asSs xs with
  | .str a, some ys => if (ys.map (·.length)).sum + ys.length * a.length ≤ 16777216 then some (.str (Txt.join a ys)) else none
  | _, _ => none
def sJoin (a : Sx E) (l : Sx LH) : Sx E := fun ρ G => (a ρ G).bind fun x G1 => match x with
  | .str z => (l ρ G1).bind fun y G2 => (optR (y.get G2) G2).bind fun xs _ => optR (joinE (.str z) xs) G2
  | _ => .bad
def intE : E → Option Int
  | .int i => some i
  | _ => none
def sSubL (l : Sx LH) (i : Sx E) : Sx E := fun ρ G => (l ρ G).bind fun x G1 => (i ρ G1).bind fun y G2 => (optR (x.get G2) G2).bind fun xs _ => (optR (intE y) G2).bind fun j _ => optR (atI xs j) G2
def sNew (l : Sx LH) : Sx E := fun ρ G => (l ρ G).bind fun x G1 => match x with
  | .tmp xs => .ok (.ref G1.length) (G1 ++ [.lst xs])
  | .pl _ => .bad
def sDct (ks : List Str) (a : Sx (List E)) : Sx E := fun ρ G => (a ρ G).bind fun xs G1 => if decide (ks.length = xs.length) && decide (ks ≠ []) && decide (ks.length ≤ 15) && decide ks.Nodup then .ok (.ref G1.length) (G1 ++ [.dct (ks.zip xs)]) else .bad
def sRefd (P : Par) (g : Nat) (a : Sx E) : Sx E := fun ρ G => match a ρ G with
  | .ok _ G1 => .ok (.bl false) G1
  | .ex c G1 => if P.rf g c then .ok (.bl true) G1 else .bad
  | .bad => .bad
/-- the signs, each once -/
def nodupB : List Nat → Bool
  | [] => true
  | x :: r => !(r.any fun y => y == x) && nodupB r
def risesB : List Nat → Bool
  | [] => true
  | [_] => true
  | x :: y :: r => decide (x ≤ y) && risesB (y :: r)
def lenSetE : E → Option E
  | .str z => if z.length < 4000 ∧ nodupB z.cps.toList = true then some (.int z.length) else none
  | _ => none
def sLenSet (a : Sx E) : Sx E := fun ρ G => (a ρ G).bind fun x G1 => optR (lenSetE x) G1
def signs (x : Str) : List E := x.cps.toList.map fun c => .str ⟨#[c]⟩
def sListS (a : Sx E) : Sx LH := fun ρ G => (a ρ G).bind fun x G1 => match x with
  | .str z => if z.length ≤ 4000 then .ok (.tmp (signs z)) G1 else .bad
  | _ => .bad
def sSortS (a : Sx E) : Sx LH := fun ρ G => (a ρ G).bind fun x G1 => match x with
  | .str z => if z.length ≤ 4000 ∧ risesB z.cps.toList = true then .ok (.tmp (signs z)) G1 else .bad
  | _ => .bad
def neLE (xs ys : List E) : Option Bool := match E.dats xs, E.dats ys with
  | some ds, some es => if PyData.depth (.list ds) ≤ 64 ∨ PyData.depth (.list es) ≤ 64 then some (!(PyData.eqv (.list ds) (.list es))) else none
  | _, _ => none
def sNeL (a b : Sx LH) : Sx Bool := fun ρ G => (a ρ G).bind fun x G1 => (b ρ G1).bind fun y G2 => (optR (x.get G2) G2).bind fun xs _ => (optR (y.get G2) G2).bind fun ys _ => optR (neLE xs ys) G2
/-! what is walked: the items, the list's place if it stands -/
def sItL (l : Sx LH) : Sx (List E × Option Nat) := fun ρ G => (l ρ G).bind fun x G1 => (optR (x.get G1) G1).bind fun xs _ => .ok (xs, match x with | .tmp _ => none | .pl n => some n) G1
/-- the items of a value -/
def itE (G : Hq) : E → Option (List E × Option Nat)
  | .ref n => (LH.get G (.pl n)).map fun xs => (xs, some n)
  | .tup xs => some (xs, none)
  | .str x => some (signs x, none)
  | _ => none
def sItA (a : Sx E) : Sx (List E × Option Nat) := fun ρ G => (a ρ G).bind fun x G1 => optR (itE G1 x) G1
def rng (lo : Int) (n : Nat) : List E := (List.range n).map fun k => .int (lo + (k : Nat))
def in62 (i : Int) : Bool := decide (-(2 ^ 62) ≤ i ∧ i < 2 ^ 62)
def sItR1 (a : Sx E) : Sx (List E × Option Nat) := fun ρ G => (a ρ G).bind fun x G1 => (optR (intE x) G1).bind fun j _ => if in62 j then .ok (rng 0 j.toNat, none) G1 else .bad
def sItR2 (a b : Sx E) : Sx (List E × Option Nat) := fun ρ G => (a ρ G).bind fun x G1 => (b ρ G1).bind fun y G2 => (optR (intE x) G2).bind fun i _ => (optR (intE y) G2).bind fun j _ => if in62 i && in62 j then .ok (rng i (j - i).toNat, none) G2 else .bad
/-- the list that is walked stands as it stood -/
def stays (st : Option Nat) (xs : List E) (G : Hq) : Prop := match st with
  | none => True
  | some n => LH.get G (.pl n) = some xs
mutual
def E.eqb : E → E → Bool
  | .non, .non => true
  | .bl a, .bl b => a == b
  | .int a, .int b => decide (a = b)
  | .str a, .str b => decide (a = b)
  | .tup a, .tup b => E.eqbs a b
  | .ref a, .ref b => a == b
  | _, _ => false
def E.eqbs : List E → List E → Bool
  | [], [] => true
  | a :: r, b :: t => E.eqb a b && E.eqbs r t
  | _, _ => false
end
def staysB (st : Option Nat) (xs : List E) (G : Hq) : Bool := match st with
  | none => true
  | some n => match LH.get G (.pl n) with
    | some ys => E.eqbs ys xs
    | none => false
def setAll : List Nm → List E → Ro → Option Ro
  | [], [], ρ => some ρ
  | n :: ns, e :: es, ρ => setAll ns es (ρ.set n.i (some e))
  | _, _, _ => none
def Tg.set : Tg → E → Ro → Option Ro
  | .name n, v, ρ => some (ρ.set n.i (some v))
  | .tup ns _ _, .tup xs, ρ => setAll ns xs ρ
  | _, _, _ => none
def wipeR (ρ : Ro) : List Nat → Ro
  | [] => ρ
  | v :: vs => (wipeR ρ vs).set v none
def R.nox {α : Type} : R α → R α
  | .ok a G => .ok a G
  | _ => .bad
def lcS (st : Option Nat) (all : List E) (tg : Tg) (c : Sx Bool) (e : Sx E) (ρ : Ro) : List E → List E → Hq → R (List E)
  | [], acc, G => if staysB st all G then .ok acc G else .bad
  | x :: r, acc, G => if staysB st all G then (optR (tg.set x ρ) G).bind fun ρ1 _ => ((c ρ1 G).nox).bind fun b G1 => if b then ((e ρ1 G1).nox).bind fun y G2 => if acc.length < sizeLine then lcS st all tg c e ρ r (acc ++ [y]) G2 else .bad
      else lcS st all tg c e ρ r acc G1 else .bad
def sLc (it : Sx (List E × Option Nat)) (tg : Tg) (c : Sx Bool) (e : Sx E) (own : List Nat) : Sx LH := fun ρ G => (it ρ G).bind fun xs G1 => (lcS xs.2 xs.1 tg c e (wipeR ρ own) xs.1 [] G1).bind fun ys G2 => .ok (.tmp ys) G2
def sYes : Sx Bool := fun _ G => .ok true G
mutual
/-- an expression's value -/
def Ex.ev (P : Par) : Ex → Sx E
  | .var i _ _ => sVar i
  | .glb j _ _ => sGlb P j
  | .int i _ _ => sC (.int i)
  | .bl b _ _ => sC (.bl b)
  | .non _ _ => sC .non
  | .str x _ _ => sC (.str x)
  | .bin o a b _ => sBin o (a.ev P) (b.ev P)
  | .cmp o a b _ => sBl (sCmp o (a.ev P) (b.ev P))
  | .isN a _ _ _ => sBl (sIsN (a.ev P))
  | .ntN a _ _ _ => sBl (sNtN (a.ev P))
  | .not a _ => sBl (sNot (sAsB (a.ev P)))
  | .and es _ => sBl (es.evAnd P)
  | .or es _ => sBl (es.evOr P)
  | .ifx c a b _ => sIf (c.evT P) (a.ev P) (b.ev P)
  | .tup es _ _ => sTup (es.ev P)
  | .sub a i _ => sSub (a.ev P) (i.ev P)
  | .slice a lo hi _ _ => sSlice (a.ev P) (lo.ev P) (hi.ev P)
  | .call f _ es _ _ => sCall P f (es.ev P)
  | .bi1 b a _ _ => sBi1 b (a.ev P)
  | .biL b l _ _ => sBiL b (l.ev P)
  | .isi a t _ _ _ => sIsi t (a.ev P)
  | .inS a b _ => sBl (sInS (a.ev P) (b.ev P))
  | .sidx a b _ _ => sSidx (a.ev P) (b.ev P)
  | .join a l _ _ => sJoin (a.ev P) (l.ev P)
  | .subL l i _ => sSubL (l.ev P) (i.ev P)
  | .new l => sNew (l.ev P)
  | .dct ks es _ => sDct (ks.map (·.1)) (es.ev P)
  | .lenSet a _ _ _ _ => sLenSet (a.ev P)
  | .neL a b _ => sBl (sNeL (a.ev P) (b.ev P))
  | .refd g _ e _ _ _ _ => sRefd P g (e.ev P)
/-- an expression as a test -/
def Ex.evT (P : Par) : Ex → Sx Bool
  | .cmp o a b _ => sCmp o (a.ev P) (b.ev P)
  | .isN a _ _ _ => sIsN (a.ev P)
  | .ntN a _ _ _ => sNtN (a.ev P)
  | .not a _ => sNot (a.evT P)
  | .and es _ => es.evTAnd P
  | .or es _ => es.evTOr P
  | .var i _ _ => sTru (sVar i)
  | .bl b _ _ => sTru (sC (.bl b))
  | .sub a i _ => sTru (sSub (a.ev P) (i.ev P))
  | .call f _ es _ _ => sTru (sCall P f (es.ev P))
  | .biL b l _ _ => sTru (sBiL b (l.ev P))
  | .isi a t _ _ _ => sTru (sIsi t (a.ev P))
  | .refd g _ e _ _ _ _ => sTru (sRefd P g (e.ev P))
  | .inS a b _ => sInS (a.ev P) (b.ev P)
  | .neL a b _ => sNeL (a.ev P) (b.ev P)
  | _ => fun _ _ => .bad
def Exs.ev (P : Par) : Exs → Sx (List E)
  | .nil => sNil
  | .cons e r => sCons (e.ev P) (r.ev P)
/-- a and b and .. as a value of bools -/
def Exs.evAnd (P : Par) : Exs → Sx Bool
  | .nil => fun _ _ => .bad
  | .cons e .nil => sAsB (e.ev P)
  | .cons e r => sAnd (sAsB (e.ev P)) (r.evAnd P)
def Exs.evOr (P : Par) : Exs → Sx Bool
  | .nil => fun _ _ => .bad
  | .cons e .nil => sAsB (e.ev P)
  | .cons e r => sOr (sAsB (e.ev P)) (r.evOr P)
/-- .. as a test -/
def Exs.evTAnd (P : Par) : Exs → Sx Bool
  | .nil => fun _ _ => .bad
  | .cons e .nil => e.evT P
  | .cons e r => sAnd (e.evT P) (r.evTAnd P)
def Exs.evTOr (P : Par) : Exs → Sx Bool
  | .nil => fun _ _ => .bad
  | .cons e .nil => e.evT P
  | .cons e r => sOr (e.evT P) (r.evTOr P)
def Ox.ev (P : Par) : Ox → Sx (Option Int)
  | .none => sOnone
  | .some e => sOsome (e.ev P)
/-- a comprehension's test -/
def Ox.evT (P : Par) : Ox → Sx Bool
  | .none => sYes
  | .some e => e.evT P
def Lx.ev (P : Par) : Lx → Sx LH
  | .ofE e => sOfE (e.ev P)
  | .disp es _ => sDisp (es.ev P)
  | .cat a b _ => sCat (a.ev P) (b.ev P)
  | .listS a _ _ => sListS (a.ev P)
  | .sortS a _ _ => sSortS (a.ev P)
  | .lc e t it c _ own _ => sLc (it.ev P) t (c.evT P) (e.ev P) (own.map (·.2))
def It.ev (P : Par) : It → Sx (List E × Option Nat)
  | .l l => sItL (l.ev P)
  | .a e => sItA (e.ev P)
  | .r1 a _ _ => sItR1 (a.ev P)
  | .r2 a b _ _ => sItR2 (a.ev P) (b.ev P)
end
/-! ### statements -/
abbrev Ss := Ro → Hq → RS
def R.st {α : Type} (r : R α) (ρ : Ro) (f : α → Hq → RS) : RS := match r with
  | .ok a G => f a G
  | .ex c G => .ex c ρ G
  | .bad => .bad
@[simp] theorem R.st_ok {α : Type} (a : α) (G : Hq) (ρ : Ro) (f : α → Hq → RS) : (R.ok a G).st ρ f = f a G := rfl
@[simp] theorem R.st_ex {α : Type} (c : Nat) (G : Hq) (ρ : Ro) (f : α → Hq → RS) : (R.ex c G : R α).st ρ f = .ex c ρ G := rfl
@[simp] theorem R.st_bad {α : Type} (ρ : Ro) (f : α → Hq → RS) : (R.bad : R α).st ρ f = .bad := rfl
/-- what follows -/
def RS.seq (r : RS) (f : Ro → Hq → RS) : RS := match r with
  | .nx ρ G => f ρ G
  | r => r
@[simp] theorem RS.seq_nx (ρ : Ro) (G : Hq) (f : Ro → Hq → RS) : (RS.nx ρ G).seq f = f ρ G := rfl
@[simp] theorem RS.seq_rt (v : E) (G : Hq) (f : Ro → Hq → RS) : (RS.rt v G).seq f = .rt v G := rfl
@[simp] theorem RS.seq_ex (c : Nat) (ρ : Ro) (G : Hq) (f : Ro → Hq → RS) : (RS.ex c ρ G).seq f = .ex c ρ G := rfl
@[simp] theorem RS.seq_bk (ρ : Ro) (G : Hq) (f : Ro → Hq → RS) : (RS.bk ρ G).seq f = .bk ρ G := rfl
@[simp] theorem RS.seq_ct (ρ : Ro) (G : Hq) (f : Ro → Hq → RS) : (RS.ct ρ G).seq f = .ct ρ G := rfl
@[simp] theorem RS.seq_bad (f : Ro → Hq → RS) : RS.bad.seq f = .bad := rfl
def qAsg (t : Tg) (e : Sx E) : Ss := fun ρ G => (e ρ G).st ρ fun v G1 => match t.set v ρ with
  | some ρ1 => .nx ρ1 G1
  | none => .bad
def qPar (i j : Nat) (a b : Sx E) : Ss := fun ρ G => (a ρ G).st ρ fun v G1 => (b ρ G1).st ρ fun w G2 => .nx ((ρ.set i (some v)).set j (some w)) G2
def augop : BOp → E → E → Option E
  | .add, .int i, .int j => some (.int (i + j))
  | .add, .str x, .str y => if x.length + y.length ≤ sizeLine then some (.str (x ++ y)) else none
  | .sub, .int i, .int j => some (.int (i - j))
  | .mul, .int i, .int j => if mulOk i j then some (.int (i * j)) else none
  | .fdiv, .int i, .int j => if 0 < j ∧ j < 1073741824 then some (.int (i / j)) else none
  | .mod, .int i, .int j => if 0 < j then some (.int (i % j)) else none
  | _, _, _ => none
def qAug (o : BOp) (i : Nat) (e : Sx E) : Ss := fun ρ G => match ρ[i]? with
  | some (some x) => (e ρ G).st ρ fun y G1 => match augop o x y with
    | some z => .nx (ρ.set i (some z)) G1
    | none => .bad
  | _ => .bad
def putS (kvs : List (Str × E)) (k : Str) (v : E) : List (Str × E) :=
  if (kvs.any fun kv => decide (kv.1 = k)) = true then kvs.map (fun kv => if kv.1 = k then (kv.1, v) else kv) else kvs ++ [(k, v)]
def qSetD (o k e : Sx E) : Ss := fun ρ G => (e ρ G).st ρ fun v G1 => (o ρ G1).st ρ fun x G2 => (k ρ G2).st ρ fun y G3 => match x, y with
  | .ref n, .str s => (match G3[n]? with
    | some (.dct kvs) => if kvs.length < sizeLine then .nx ρ (G3.set n (.dct (putS kvs s v))) else .bad
    | _ => .bad)
  | _, _ => .bad
def qExpr (e : Sx E) : Ss := fun ρ G => (e ρ G).st ρ fun _ G1 => .nx ρ G1
def qApp (o e : Sx E) : Ss := fun ρ G => (o ρ G).st ρ fun x G1 => match x with
  | .ref n => if (LH.get G1 (.pl n)).isSome then ((e ρ G1).st ρ fun v G2 => match G2[n]? with
    | some (.lst xs) => if xs.length < sizeLine then .nx ρ (G2.set n (.lst (xs ++ [v]))) else .bad
    | _ => .bad) else .bad
  | _ => .bad
def qIf (c : Sx Bool) (a b : Ss) : Ss := fun ρ G => (c ρ G).st ρ fun x G1 => if x then a ρ G1 else b ρ G1
def forS (st : Option Nat) (all : List E) (tg : Tg) (b : Ss) : List E → Ro → Hq → RS
  | [], ρ, G => if staysB st all G then .nx ρ G else .bad
  | x :: r, ρ, G => if staysB st all G then (match tg.set x ρ with
    | some ρ1 => (match b ρ1 G with
      | .nx ρ2 G2 => forS st all tg b r ρ2 G2
      | .ct ρ2 G2 => forS st all tg b r ρ2 G2
      | .bk ρ2 G2 => .nx ρ2 G2
      | .rt v G2 => .rt v G2
      | .ex c ρ2 G2 => .ex c ρ2 G2
      | .bad => .bad)
    | none => .bad) else .bad
def qFor (tg : Tg) (it : Sx (List E × Option Nat)) (b : Ss) : Ss := fun ρ G => (it ρ G).st ρ fun xs G1 => forS xs.2 xs.1 tg b xs.1 ρ G1
def whilS (c : Sx Bool) (b : Ss) : Nat → Ro → Hq → RS
  | 0, _, _ => .bad
  | n + 1, ρ, G => (c ρ G).st ρ fun x G1 => if x then (match b ρ G1 with
      | .nx ρ2 G2 => whilS c b n ρ2 G2
      | .ct ρ2 G2 => whilS c b n ρ2 G2
      | .bk ρ2 G2 => .nx ρ2 G2
      | .rt v G2 => .rt v G2
      | .ex c ρ2 G2 => .ex c ρ2 G2
      | .bad => .bad) else .nx ρ G1
def qRet (e : Sx E) : Ss := fun ρ G => (e ρ G).st ρ fun v G1 => .rt v G1
mutual
def Stm.ev (P : Par) : Stm → Ss
  | .asg t e _ => qAsg t (e.ev P)
  | .asgL n l _ => qAsg (.name n) (sNew (l.ev P))
  | .par a b e f _ _ _ _ _ => qPar a.i b.i (e.ev P) (f.ev P)
  | .aug o n e _ => qAug o n.i (e.ev P)
  | .setD o k e _ _ => qSetD (o.ev P) (k.ev P) (e.ev P)
  | .expr e _ => qExpr (e.ev P)
  | .app o e _ _ _ => qApp (o.ev P) (e.ev P)
  | .ifs c a b _ => qIf (c.evT P) (a.ev P) (b.ev P)
  | .forr t it b _ => qFor t (it.ev P) (b.ev P)
  | .whil c b _ => whilS (c.evT P) (b.ev P) P.wf
  | .ret e _ => qRet (e.ev P)
  | .retN _ => fun _ G => .rt .non G
  | .rais c _ _ _ _ _ _ _ => fun ρ G => .ex c ρ G
  | .pas _ => fun ρ G => .nx ρ G
  | .brk _ => fun ρ G => .bk ρ G
  | .cont _ => fun ρ G => .ct ρ G
def Stms.ev (P : Par) : Stms → Ss
  | .nil => fun ρ G => .nx ρ G
  | .cons s r => fun ρ G => (s.ev P ρ G).seq (r.ev P)
end
/-! ### functions -/
structure Fn where
  np : Nat
  ns : Nat
  pure : Bool
  body : Stms
def kvsEqb : List (Str × E) → List (Str × E) → Bool
  | [], [] => true
  | a :: r, b :: t => decide (a.1 = b.1) && E.eqb a.2 b.2 && kvsEqb r t
  | _, _ => false
def Ob.eqb : Ob → Ob → Bool
  | .lst a, .lst b => E.eqbs a b
  | .rol a, .rol b => E.eqbs a b
  | .dct a, .dct b => kvsEqb a b
  | _, _ => false
def hqEqb : Hq → Hq → Bool
  | [], [] => true
  | a :: r, b :: t => Ob.eqb a b && hqEqb r t
  | _, _ => false
/-- what a call leaves: of a pure one, nothing new -/
def retP (pure : Bool) (G : Hq) (v : E) (G' : Hq) : R E := if pure then (if hqEqb (G'.take G.length) G && v.dat.isSome then .ok v G else .bad) else .ok v G'
def endR (pure : Bool) (G : Hq) : RS → R E
  | .nx _ G' => retP pure G .non G'
  | .rt v G' => retP pure G v G'
  | .ex c _ G' => .ex c G'
  | _ => .bad
def callF (T : Nat → Option Fn) (gl : Nat → Option E) (rf : Nat → Nat → Bool) (wf : Nat) : Nat → Nat → List E → Hq → R E
  | 0, _, _, _ => .bad
  | k + 1, f, es, G => match T f with
    | some fn => if es.length = fn.np then endR fn.pure G (fn.body.ev ⟨callF T gl rf wf k, gl, rf, wf⟩ (es.map some ++ List.replicate (fn.ns - fn.np) none) G) else .bad
    | none => .bad

/-! ### equality -/
mutual
theorem E.eqb_eq : ∀ {a b : E}, E.eqb a b = true → a = b
  | .non, b, h => by cases b <;> first | rfl | (simp [E.eqb] at h)
  | .bl x, b, h => by cases b <;> first | (simp [E.eqb] at h; subst h; rfl) | (simp [E.eqb] at h)
  | .int x, b, h => by cases b <;> first | (simp [E.eqb] at h; subst h; rfl) | (simp [E.eqb] at h)
  | .str x, b, h => by cases b <;> first | (simp [E.eqb] at h; subst h; rfl) | (simp [E.eqb] at h)
  | .tup x, b, h => by
    cases b with
    | tup y => rw [E.eqbs_eq (show E.eqbs x y = true by simpa [E.eqb] using h)]
    | _ => simp [E.eqb] at h
  | .ref x, b, h => by cases b <;> first | (simp [E.eqb] at h; subst h; rfl) | (simp [E.eqb] at h)
theorem E.eqbs_eq : ∀ {a b : List E}, E.eqbs a b = true → a = b
  | [], b, h => by cases b <;> first | rfl | (simp [E.eqbs] at h)
  | x :: r, b, h => by
    cases b with
    | nil => simp [E.eqbs] at h
    | cons y t =>
      have h2 : E.eqb x y = true ∧ E.eqbs r t = true := by simpa [E.eqbs] using h
      rw [E.eqb_eq h2.1, E.eqbs_eq h2.2]
end
mutual
theorem E.eqb_refl : ∀ a : E, E.eqb a a = true
  | .non => rfl
  | .bl x => by simp [E.eqb]
  | .int x => by simp [E.eqb]
  | .str x => by simp [E.eqb]
  | .tup x => by unfold E.eqb; exact E.eqbs_refl x
  | .ref x => by simp [E.eqb]
theorem E.eqbs_refl : ∀ a : List E, E.eqbs a a = true
  | [] => rfl
  | x :: r => by unfold E.eqbs; rw [E.eqb_refl x, E.eqbs_refl r]; rfl
end
theorem kvsEqb_eq : ∀ {a b : List (Str × E)}, kvsEqb a b = true → a = b
  | [], b, h => by cases b <;> first | rfl | (simp [kvsEqb] at h)
  | x :: r, b, h => by
    cases b with
    | nil => simp [kvsEqb] at h
    | cons y t =>
      have h2 : (x.1 = y.1 ∧ E.eqb x.2 y.2 = true) ∧ kvsEqb r t = true := by simpa [kvsEqb] using h
      rw [kvsEqb_eq h2.2, Prod.ext h2.1.1 (E.eqb_eq h2.1.2)]
theorem kvsEqb_refl : ∀ a : List (Str × E), kvsEqb a a = true
  | [] => rfl
  | x :: r => by unfold kvsEqb; rw [E.eqb_refl, kvsEqb_refl r]; simp
theorem Ob.eqb_eq {a b : Ob} (h : Ob.eqb a b = true) : a = b := by
  cases a <;> cases b <;> first
    | (simp only [Ob.eqb] at h; rw [E.eqbs_eq h])
    | (simp only [Ob.eqb] at h; rw [kvsEqb_eq h])
    | (simp [Ob.eqb] at h)
theorem Ob.eqb_refl (a : Ob) : Ob.eqb a a = true := by
  cases a <;> simp only [Ob.eqb, E.eqbs_refl, kvsEqb_refl]
theorem hqEqb_eq : ∀ {a b : Hq}, hqEqb a b = true → a = b
  | [], b, h => by cases b <;> first | rfl | (simp [hqEqb] at h)
  | x :: r, b, h => by
    cases b with
    | nil => simp [hqEqb] at h
    | cons y t =>
      have h2 : Ob.eqb x y = true ∧ hqEqb r t = true := by simpa [hqEqb] using h
      rw [hqEqb_eq h2.2, Ob.eqb_eq h2.1]
theorem hqEqb_refl : ∀ a : Hq, hqEqb a a = true
  | [] => rfl
  | x :: r => by unfold hqEqb; rw [Ob.eqb_refl, hqEqb_refl r]; rfl
theorem staysB_of {st : Option Nat} {xs : List E} {G : Hq} (h : staysB st xs G = true) : stays st xs G := by
  cases st with
  | none => exact True.intro
  | some n =>
    simp only [staysB] at h
    cases q : LH.get G (.pl n) with
    | none => rw [q] at h; cases h
    | some ys => rw [q] at h; rw [stays, q, E.eqbs_eq h]
theorem retP_app {G J : Hq} {v : E} (h : v.dat.isSome = true) : retP true G v (G ++ J) = .ok v G := by
  unfold retP
  rw [if_pos rfl, List.take_left, hqEqb_refl, h]
  rfl
theorem retP_same {G : Hq} {v : E} (h : v.dat.isSome = true) : retP true G v G = .ok v G := by
  have := retP_app (G := G) (J := []) h
  rwa [List.append_nil] at this
end Lt
end
section
set_option Elab.async false
set_option linter.all false
set_option maxRecDepth 100000
/-! Lt: what a value, a heap of the small language stands for; how its meaning is carried over to the hand layer's readings. -/
namespace Lt
open PySem PySem.Spec PyProof.Rows L2

abbrev Mp := Nat → Option Addr
/-- a tuple: tracked, or one of the module's own -/
def TupAt (K : PySem.W.Frag) (H : Hp) (a : Addr) (xs : List V) : Prop := H a = some (.tup xs) ∨
    ∃ (o : Obj) (its : Array Value) (n : Nat), K.lookup a = some o ∧ o.cls = .type "tuple" ∧ o.data = .seq its n ∧ its.size ≤ sizeLine ∧ Vals xs its.toList
theorem TupAt.sq {K : PySem.W.Frag} {H : Hp} {a : Addr} {xs : List V} (h : TupAt K H a xs) : SqT K H a xs := by
  rcases h with h | h
  · exact .inl (.inl h)
  · exact .inr h
mutual
inductive RV (K : PySem.W.Frag) (m : Mp) (H : Hp) : E → V → Prop
  | non : RV K m H .non .non
  | bl (b : Bool) : RV K m H (.bl b) (.bl b)
  | int (i : Int) : RV K m H (.int i) (.int i)
  | str (x : Str) : RV K m H (.str x) (.str x)
  | tup {es : List E} {a : Addr} {vs : List V} : TupAt K H a vs → RVs K m H es vs → RV K m H (.tup es) (.ref a)
  | ref {n : Nat} {a : Addr} : m n = some a → RV K m H (.ref n) (.ref a)
inductive RVs (K : PySem.W.Frag) (m : Mp) (H : Hp) : List E → List V → Prop
  | nil : RVs K m H [] []
  | cons {e : E} {es : List E} {v : V} {vs : List V} : RV K m H e v → RVs K m H es vs → RVs K m H (e :: es) (v :: vs)
end
inductive RKs (K : PySem.W.Frag) (m : Mp) (H : Hp) : List (Str × E) → List (Key × V) → Prop
  | nil : RKs K m H [] []
  | cons {x : Str} {e : E} {es : List (Str × E)} {v : V} {vs : List (Key × V)} : RV K m H e v → RKs K m H es vs → RKs K m H ((x, e) :: es) ((.inr x, v) :: vs)
/-- an object of the heap -/
def ObR (K : PySem.W.Frag) (m : Mp) (H : Hp) (a : Addr) : Ob → Prop
  | .lst es => ∃ vs, H a = some (.lst vs) ∧ RVs K m H es vs
  | .rol es => ∃ vs, Rd H a (.lst vs) ∧ RVs K m H es vs
  | .dct kvs => ∃ vs, H a = some (.dK vs) ∧ RKs K m H kvs vs
/-- the world: what the module has written, the tables of code objects, the exceptions' classes -/
structure Wd where
  K : PySem.W.Frag
  T : List (Addr × Str)
  xc : Nat → Value
/-- .. apart from the module's own objects -/
structure Wq where
  T : List (Addr × Str)
  xc : Nat → Value
abbrev dW (X : Cx) (q : Wq) : Wd := ⟨X.K, q.T, q.xc⟩
structure MtG (D : Wd) (m : Mp) (H : Hp) (G : Hq) : Prop where
  dom : ∀ n, n < G.length → ∃ a, m n = some a
  cod : ∀ n a, m n = some a → n < G.length
  inj : ∀ n k a, m n = some a → m k = some a → n = k
  obj : ∀ (n : Nat) (o : Ob) (a : Addr), G[n]? = some o → m n = some a → ObR D.K m H a o
  tab : LamX.Tabs D.T H
/-- nothing that is tracked, or a table -/
def NT (H : Hp) (a : Addr) : Prop := H a = none ∨ ∃ ps, H a = some (.tbl ps)
theorem NT.no {H : Hp} {a : Addr} {o : HO} (h : NT H a) (e : H a = some o) (ht : ∀ ps, o ≠ .tbl ps) : False := by
  rcases h with h | ⟨ps, h⟩
  · rw [h] at e; cases e
  · rw [h] at e; cases e; exact ht ps rfl
/-- a later state -/
structure Ext (m : Mp) (H : Hp) (m' : Mp) (H' : Hp) : Prop where
  mono : ∀ n a, m n = some a → m' n = some a
  stay : ∀ a o, H a = some o → (∀ ps, o ≠ .tbl ps) → (∀ n, m n ≠ some a) → H' a = some o
  tups : ∀ a xs, H a = some (.tup xs) → H' a = some (.tup xs)
  new : ∀ n a, m' n = some a → m n = some a ∨ NT H a
  there : ∀ a, NT H' a → NT H a
theorem Ext.refl (m : Mp) (H : Hp) : Ext m H m H := ⟨fun _ _ h => h, fun _ _ h _ _ => h, fun _ _ h => h, fun _ _ h => .inl h, fun _ h => h⟩
theorem Ext.trans {m m1 m2 : Mp} {H H1 H2 : Hp} (a : Ext m H m1 H1) (b : Ext m1 H1 m2 H2) : Ext m H m2 H2 where
  mono n x h := b.mono n x (a.mono n x h)
  stay x o h ht hn := b.stay x o (a.stay x o h ht hn) ht fun n q => by
    rcases a.new n x q with q | q
    · exact hn n q
    · exact q.no h ht
  tups x xs h := b.tups x xs (a.tups x xs h)
  new n x h := by
    rcases b.new n x h with q | q
    · exact a.new n x q
    · exact .inr (a.there x q)
  there x h := a.there x (b.there x h)
section
variable {K : PySem.W.Frag} {m m' : Mp} {H H' : Hp}
theorem TupAt.ext {a : Addr} {xs : List V} (h : TupAt K H a xs) (e : Ext m H m' H') : TupAt K H' a xs := by
  rcases h with h | h
  · exact .inl (e.tups _ _ h)
  · exact .inr h
mutual
theorem RV.tr (hm : ∀ n a, m n = some a → m' n = some a) (ht : ∀ a xs, H a = some (.tup xs) → H' a = some (.tup xs)) : ∀ {x : E} {v : V}, RV K m H x v → RV K m' H' x v
  | _, _, .non => .non
  | _, _, .bl b => .bl b
  | _, _, .int i => .int i
  | _, _, .str x => .str x
  | _, _, .tup h r => .tup (h.imp (ht _ _) fun z => z) (RVs.tr hm ht r)
  | _, _, .ref h => .ref (hm _ _ h)
theorem RVs.tr (hm : ∀ n a, m n = some a → m' n = some a) (ht : ∀ a xs, H a = some (.tup xs) → H' a = some (.tup xs)) : ∀ {x : List E} {v : List V}, RVs K m H x v → RVs K m' H' x v
  | _, _, .nil => .nil
  | _, _, .cons h r => .cons (RV.tr hm ht h) (RVs.tr hm ht r)
end
theorem RKs.tr (hm : ∀ n a, m n = some a → m' n = some a) (ht : ∀ a xs, H a = some (.tup xs) → H' a = some (.tup xs)) : ∀ {x : List (Str × E)} {v : List (Key × V)}, RKs K m H x v → RKs K m' H' x v
  | _, _, .nil => .nil
  | _, _, .cons h r => .cons (h.tr hm ht) (RKs.tr hm ht r)
theorem RV.ext (e : Ext m H m' H') {x : E} {v : V} (r : RV K m H x v) : RV K m' H' x v := r.tr e.mono e.tups
theorem RVs.ext (e : Ext m H m' H') {x : List E} {v : List V} (r : RVs K m H x v) : RVs K m' H' x v := r.tr e.mono e.tups
theorem RKs.ext (e : Ext m H m' H') {x : List (Str × E)} {v : List (Key × V)} (r : RKs K m H x v) : RKs K m' H' x v := r.tr e.mono e.tups
theorem ObR.tr {a : Addr} {o : Ob} (hm : ∀ n a, m n = some a → m' n = some a) (ht : ∀ a xs, H a = some (.tup xs) → H' a = some (.tup xs)) (ha : H' a = H a) (r : ObR K m H a o) : ObR K m' H' a o := by
  cases o with
  | lst es => obtain ⟨vs, q, r⟩ := r; exact ⟨vs, ha.trans q, r.tr hm ht⟩
  | rol es => obtain ⟨vs, q, r⟩ := r; exact ⟨vs, by unfold Rd; rw [ha]; exact q, r.tr hm ht⟩
  | dct kvs => obtain ⟨vs, q, r⟩ := r; exact ⟨vs, ha.trans q, r.tr hm ht⟩
theorem RVs.length : ∀ {x : List E} {v : List V}, RVs K m H x v → x.length = v.length
  | _, _, .nil => rfl
  | _, _, .cons _ r => by rw [List.length_cons, List.length_cons, r.length]
theorem RVs.append : ∀ {x y : List E} {v w : List V}, RVs K m H x v → RVs K m H y w → RVs K m H (x ++ y) (v ++ w)
  | _, _, _, _, .nil, s => s
  | _, _, _, _, .cons a r, s => .cons a (RVs.append r s)
theorem RVs.get : ∀ {x : List E} {v : List V} {i : Nat} {e : E}, RVs K m H x v → x[i]? = some e → ∃ w, v[i]? = some w ∧ RV K m H e w
  | _, _, i, e, .nil, h => by simp at h
  | _, _, 0, e, .cons a r, h => by
    simp at h; subst h; exact ⟨_, rfl, a⟩
  | _, _, i + 1, e, .cons a r, h => by
    obtain ⟨w, h1, h2⟩ := RVs.get (i := i) r (by simpa using h)
    exact ⟨w, by simpa using h1, h2⟩
theorem RVs.drop : ∀ {x : List E} {v : List V} (n : Nat), RVs K m H x v → RVs K m H (x.drop n) (v.drop n)
  | _, _, 0, r => r
  | _, _, n + 1, .nil => .nil
  | _, _, n + 1, .cons a r => RVs.drop n r
theorem RVs.take : ∀ {x : List E} {v : List V} (n : Nat), RVs K m H x v → RVs K m H (x.take n) (v.take n)
  | _, _, 0, r => .nil
  | _, _, n + 1, .nil => .nil
  | _, _, n + 1, .cons a r => .cons a (RVs.take n r)
theorem atI_len {α β : Type} {xs : List α} {ys : List β} (h : xs.length = ys.length) (i : Int) : ixN xs.length i = ixN ys.length i := by rw [h]
theorem RVs.atI {x : List E} {v : List V} {i : Int} {e : E} (r : RVs K m H x v) (h : atI x i = some e) : ∃ w, L2.atI v i = some w ∧ RV K m H e w := by
  unfold L2.atI at h ⊢
  rw [← r.length]
  cases q : ixN x.length i with
  | none => rw [q] at h; cases h
  | some j =>
    rw [q] at h
    exact r.get h
/- values that hold no reference are data -/
mutual
theorem RV.dp : ∀ {x : E} {v : V} {d : PyData}, RV K m H x v → x.dat = some d → Dp K H v d
  | _, _, _, .non, h => by cases h; exact .non
  | _, _, _, .bl b, h => by cases h; exact .bl b
  | _, _, _, .int i, h => by cases h; exact .int i
  | _, _, _, .str x, h => by cases h; exact .str x
  | _, _, d, .tup (es := es) t r, h => by
    unfold E.dat at h
    cases q : E.dats es with
    | none => rw [q] at h; cases h
    | some ds =>
      rw [q] at h
      cases h
      exact .tup t.sq (RVs.dp r q)
  | _, _, _, .ref _, h => by cases h
theorem RVs.dp : ∀ {x : List E} {v : List V} {ds : List PyData}, RVs K m H x v → E.dats x = some ds → DpAll K H v ds
  | _, _, _, .nil, h => by cases h; exact .nil
  | _, _, _, .cons (e := e) (es := es) a r, h => by
    unfold E.dats at h
    cases q : e.dat with
    | none => rw [q] at h; cases h
    | some d =>
      rw [q] at h
      cases q2 : E.dats es with
      | none => rw [q2] at h; cases h
      | some ds =>
        rw [q2] at h
        cases h
        exact .cons (RV.dp a q) (RVs.dp r q2)
end
mutual
theorem E.dat_plain : ∀ {x : E} {d : PyData}, x.dat = some d → d.plain = true
  | .non, _, h => by cases h; rfl
  | .bl b, _, h => by cases h; rfl
  | .int i, _, h => by cases h; rfl
  | .str x, _, h => by cases h; rfl
  | .tup es, d, h => by
    unfold E.dat at h
    cases q : E.dats es with
    | none => rw [q] at h; cases h
    | some ds =>
      rw [q] at h
      cases h
      unfold PyData.plain
      exact E.dats_plain q
  | .ref _, _, h => by cases h
theorem E.dats_plain : ∀ {x : List E} {ds : List PyData}, E.dats x = some ds → PyData.plainAll ds = true
  | [], _, h => by cases h; rfl
  | e :: es, _, h => by
    unfold E.dats at h
    cases q : e.dat with
    | none => rw [q] at h; cases h
    | some d =>
      rw [q] at h
      cases q2 : E.dats es with
      | none => rw [q2] at h; cases h
      | some ds =>
        rw [q2] at h
        cases h
        unfold PyData.plainAll
        rw [E.dat_plain q, E.dats_plain q2]
        rfl
end
end
/-! ### objects come and change -/
section
variable {D : Wd} {m m' : Mp} {H H' : Hp} {G : Hq}
def isD : HO → Bool
  | .lst _ => true
  | .frz _ _ => true
  | .dK _ => true
  | _ => false
theorem ObR.at0 {a : Addr} {o : Ob} (r : ObR D.K m H a o) : ∃ u, H a = some u ∧ isD u = true := by
  cases o with
  | lst es => obtain ⟨vs, q, _⟩ := r; exact ⟨_, q, rfl⟩
  | rol es =>
    obtain ⟨vs, q, _⟩ := r
    rcases q with q | ⟨o, q⟩
    · exact ⟨_, q, rfl⟩
    · exact ⟨_, q, rfl⟩
  | dct kvs => obtain ⟨vs, q, _⟩ := r; exact ⟨_, q, rfl⟩
theorem tabs_upd {T : List (Addr × Str)} {a : Addr} {w u : HO} (t : LamX.Tabs T H) (h : H a = some w) (d : isD w = true) : LamX.Tabs T (upd H a u) := fun p hp => by
  obtain ⟨ps, h1, h2, h3⟩ := t p hp
  have ne : ∀ b o, H b = some o → isD o = false → (upd H a u) b = some o := fun b o q z => by
    rw [upd_ne]
    · exact q
    · rintro rfl
      rw [h] at q; cases q; rw [d] at z; cases z
  refine ⟨ps, ne _ _ h1 rfl, h2, fun pos cv hc => ?_⟩
  obtain ⟨c, e1, e2⟩ := h3 pos cv hc
  exact ⟨c, e1, ne _ _ e2 rfl⟩
theorem MtG.got (M : MtG D m H G) {n : Nat} {a : Addr} (h : m n = some a) : ∃ o, G[n]? = some o ∧ ObR D.K m H a o :=
  ⟨_, List.getElem?_eq_getElem (M.cod n a h), M.obj n _ a (List.getElem?_eq_getElem (M.cod n a h)) h⟩
theorem MtG.ne_none (M : MtG D m H G) {p : Addr} (hp : H p = none) : ∀ n, m n ≠ some p := fun n h => by
  obtain ⟨o, _, r⟩ := M.got h
  obtain ⟨u, e, _⟩ := r.at0
  rw [hp] at e; cases e
def Mp.add (m : Mp) (k : Nat) (a : Addr) : Mp := fun n => if n = k then some a else m n
theorem Mp.add_mono (M : MtG D m H G) {a : Addr} : ∀ n b, m n = some b → (Mp.add m G.length a) n = some b := fun n b h => by
  unfold Mp.add
  rw [if_neg (Nat.ne_of_lt (M.cod n b h))]
  exact h
theorem Mp.add_self {k : Nat} {a : Addr} : (Mp.add m k a) k = some a := if_pos rfl
theorem MtG.add {a : Addr} {o : Ob} (M : MtG D m H G) (hn : ∀ n, m n ≠ some a) (ho : ObR D.K (Mp.add m G.length a) H a o) : MtG D (Mp.add m G.length a) H (G ++ [o]) where
  dom n h := by
    rw [List.length_append] at h
    unfold Mp.add
    by_cases e : n = G.length
    · exact ⟨a, if_pos e⟩
    · rw [if_neg e]
      exact M.dom n (by simp at h; omega)
  cod n b h := by
    rw [List.length_append]
    unfold Mp.add at h
    by_cases e : n = G.length
    · simp; omega
    · rw [if_neg e] at h
      have := M.cod n b h
      simp; omega
  inj n k b h1 h2 := by
    unfold Mp.add at h1 h2
    by_cases e : n = G.length
    · rw [if_pos e] at h1
      cases h1
      by_cases e2 : k = G.length
      · omega
      · rw [if_neg e2] at h2; exact absurd h2 (hn k)
    · rw [if_neg e] at h1
      by_cases e2 : k = G.length
      · rw [if_pos e2] at h2; cases h2; exact absurd h1 (hn n)
      · rw [if_neg e2] at h2; exact M.inj n k b h1 h2
  obj n u b h1 h2 := by
    by_cases e : n = G.length
    · subst e
      rw [List.getElem?_append_right (Nat.le_refl _)] at h1
      simp at h1
      subst h1
      have : b = a := by
        unfold Mp.add at h2
        rw [if_pos rfl] at h2
        injection h2 with e; exact e.symm
      subst this
      exact ho
    · unfold Mp.add at h2
      rw [if_neg e] at h2
      rw [List.getElem?_append_left (M.cod n b h2)] at h1
      exact (M.obj n u b h1 h2).tr (Mp.add_mono M) (fun _ _ z => z) rfl
  tab := M.tab
theorem MtG.put {n : Nat} {a : Addr} {o o' : Ob} {u : HO} (M : MtG D m H G) (hg : G[n]? = some o) (hm : m n = some a) (ho : ObR D.K m (upd H a u) a o') : MtG D m (upd H a u) (G.set n o') where
  dom k h := M.dom k (by simpa using h)
  cod k b h := by
    have := M.cod k b h
    simpa using this
  inj := M.inj
  obj k v b h1 h2 := by
    by_cases e : n = k
    · subst e
      rw [hm] at h2
      cases h2
      rw [List.getElem?_set_self (M.cod n a hm)] at h1
      cases h1
      exact ho
    · rw [List.getElem?_set_ne e] at h1
      have hb : b ≠ a := fun z => e (M.inj n k a hm (by rw [← z]; exact h2))
      obtain ⟨w, e1, e2⟩ := (M.obj n o a hg hm).at0
      refine (M.obj k v b h1 h2).tr (fun _ _ z => z) (fun c xs q => ?_) (upd_ne hb)
      rw [upd_ne]
      · exact q
      · rintro rfl
        rw [q] at e1; cases e1; cases e2
  tab := by
    obtain ⟨w, e1, e2⟩ := (M.obj n o a hg hm).at0
    exact tabs_upd M.tab e1 e2
theorem Ext.put {n : Nat} {a : Addr} {o : Ob} {u : HO} (M : MtG D m H G) (hg : G[n]? = some o) (hm : m n = some a) (hu : ∀ ps, u ≠ .tbl ps) : Ext m H m (upd H a u) where
  mono _ _ h := h
  stay b v h _ hb := by
    rw [upd_ne]
    · exact h
    · rintro rfl; exact hb n hm
  tups b xs q := by
    obtain ⟨w, e1, e2⟩ := (M.obj n o a hg hm).at0
    rw [upd_ne]
    · exact q
    · rintro rfl
      rw [q] at e1; cases e1; cases e2
  new _ _ h := .inl h
  there b h := by
    by_cases e : b = a
    · subst e; exact (NT.no h upd_same hu).elim
    · unfold NT at h; rw [upd_ne e] at h; exact h
/-- an object that the small heap does not know is written -/
theorem MtG.put0 {p : Addr} {w u : HO} (M : MtG D m H G) (hn : ∀ n, m n ≠ some p) (hp : H p = some w) (d : isD w = true) : MtG D m (upd H p u) G where
  dom := M.dom
  cod := M.cod
  inj := M.inj
  obj k v b h1 h2 := by
    refine (M.obj k v b h1 h2).tr (fun _ _ z => z) (fun c xs q => ?_) (upd_ne fun e => hn k (by rw [← e]; exact h2))
    rw [upd_ne]
    · exact q
    · rintro rfl
      rw [q] at hp; cases hp; cases d
  tab := tabs_upd M.tab hp d
end
/-- the slots -/
def MtE (K : PySem.W.Frag) (m : Mp) (H : Hp) (ρ : Ro) (σ : L2.St) : Prop := ρ.length = σ.length ∧ ∀ (i : Nat) (e : E), ρ[i]? = some (some e) → ∃ v, σ[i]? = some (some v) ∧ RV K m H e v
theorem MtE.ext {K : PySem.W.Frag} {m m' : Mp} {H H' : Hp} {ρ : Ro} {σ : L2.St} (h : MtE K m H ρ σ) (e : Ext m H m' H') : MtE K m' H' ρ σ :=
  ⟨h.1, fun i x q => let ⟨v, a, b⟩ := h.2 i x q; ⟨v, a, b.ext e⟩⟩
theorem MtE.set {K : PySem.W.Frag} {m : Mp} {H : Hp} {ρ : Ro} {σ : L2.St} {i : Nat} {e : E} {v : V} (h : MtE K m H ρ σ) (r : RV K m H e v) : MtE K m H (ρ.set i (some e)) (σ.set i (some v)) := by
  refine ⟨by rw [List.length_set, List.length_set, h.1], fun j x q => ?_⟩
  by_cases hj : i = j
  · subst hj
    have hl : i < ρ.length := by
      have := (List.getElem?_eq_some_iff.mp q).1
      simpa using this
    rw [List.getElem?_set_self hl] at q
    have hx : e = x := by simpa using q
    subst hx
    exact ⟨v, by rw [List.getElem?_set_self (by rw [← h.1]; exact hl)], r⟩
  · rw [List.getElem?_set_ne hj] at q ⊢
    exact h.2 j x q

/-! ### ends -/
section
variable (D : Wd) (W : WX) (σ : L2.St)
def Fin {α β : Type} (m : Mp) (H : Hp) (r : R α) (rel : Mp → Hp → α → β → Prop) (Q : β → Hp → Prop) : Prop := match r with
  | .ok v G' => ∀ m' v' H', Ext m H m' H' → MtG D m' H' G' → rel m' H' v v' → Q v' H'
  | .ex c G' => ∀ m' H' d, Ext m H m' H' → MtG D m' H' G' → W (D.xc c) d σ H'
  | .bad => False
end
section
variable {D : Wd} {W : WX} {σ : L2.St} {α β : Type} {m m' : Mp} {H H' : Hp} {r : R α} {rel : Mp → Hp → α → β → Prop} {Q Q' : β → Hp → Prop}
theorem Fin.ext (h : Fin D W σ m H r rel Q) (e : Ext m H m' H') : Fin D W σ m' H' r rel Q := by
  cases r with
  | ok v G => exact fun m2 v2 H2 e2 M r => h m2 v2 H2 (e.trans e2) M r
  | ex c G => exact fun m2 H2 d e2 M => h m2 H2 d (e.trans e2) M
  | bad => exact h
theorem Fin.mono (h : Fin D W σ m H r rel Q) (k : ∀ v H', Q v H' → Q' v H') : Fin D W σ m H r rel Q' := by
  cases r with
  | ok v G => exact fun m2 v2 H2 e2 M r => k _ _ (h m2 v2 H2 e2 M r)
  | ex c G => exact h
  | bad => exact h
theorem Fin.bind {γ δ : Type} {f : α → Hq → R γ} {rel2 : Mp → Hp → γ → δ → Prop} {Q2 : δ → Hp → Prop} {Q : β → Hp → Prop} (h : Fin D W σ m H (r.bind f) rel2 Q2)
    (k : ∀ v G' m' v' H', r = .ok v G' → Ext m H m' H' → MtG D m' H' G' → rel m' H' v v' → Fin D W σ m' H' (f v G') rel2 Q2 → Q v' H') : Fin D W σ m H r rel Q := by
  cases r with
  | ok v G => exact fun m2 v2 H2 e2 M r => k v G m2 v2 H2 rfl e2 M r (Fin.ext (show Fin D W σ m H (f v G) rel2 Q2 from h) e2)
  | ex c G => exact h
  | bad => exact h
end
/-- soundness of a meaning for a reading -/
def Snd (D : Wd) (W : WX) {α β : Type} (s : Sx α) (rel : Mp → Hp → α → β → Prop) (w : L2.St → Hp → (β → Hp → Prop) → Prop) : Prop :=
  ∀ (ρ : Ro) (G : Hq) (σ : L2.St) (H : Hp) (m : Mp) (Q : β → Hp → Prop), MtE D.K m H ρ σ → MtG D m H G → Fin D W σ m H (s ρ G) rel Q → w σ H Q
/-! ### the weakest readings -/
section
variable (X : Cx)
def wE (e : Expr) : TE := fun σ H Q => ∃ t, PE X e t ∧ t σ H Q
def wT (e : Expr) : TT := fun σ H Q => ∃ t, PT X e t ∧ t σ H Q
def wA (es : List Expr) : TA := fun σ H Q => ∃ t, PA X es t ∧ t σ H Q
def wO (e : Option Expr) : TO := fun σ H Q => ∃ t, PO X e t ∧ t σ H Q
def wOp (f : Value → Value → Sem Value) : R2 := fun x y H Q => ∃ r, OpR X f r ∧ r x y H Q
end
section
variable {X : Cx}
theorem pe_w {e : Expr} : PE X e (wE X e) := ⟨fun pins s σ H Q I ⟨t, h, q⟩ => h.run pins s σ H Q I q⟩
theorem pt_w {e : Expr} : PT X e (wT X e) := ⟨fun pins s σ H Q I ⟨t, h, q⟩ => h.run pins s σ H Q I q⟩
theorem pa_w {es : List Expr} : PA X es (wA X es) := ⟨fun pos pins s σ H Q I ⟨t, h, q⟩ => h.run pos pins s σ H Q I q⟩
theorem po_w {e : Option Expr} : PO X e (wO X e) := ⟨fun pins s σ H Q I ⟨t, h, q⟩ => h.run pins s σ H Q I q⟩
theorem op_w {f : Value → Value → Sem Value} : OpR X f (wOp X f) := fun pins s σ H x y v u Q I rx ry ⟨r, h, q⟩ => h pins s σ H x y v u Q I rx ry q
end
abbrev RB : Mp → Hp → Bool → Bool → Prop := fun _ _ a b => a = b
abbrev RO : Mp → Hp → Option Int → Option Int → Prop := fun _ _ a b => a = b
end Lt
end
section
set_option Elab.async false
set_option linter.all false
set_option maxRecDepth 100000
/-! Lt: soundness of expressions, construct by construct. -/
namespace Lt
open PySem PySem.Spec PyProof.Rows L2

/-- what a body's context gives -/
structure CxG (X : Cx) (W : WX) : Prop where
  calm : X.calm = true
  nd : X.N.Nodup
  tk : Takes X W
  un : X.A.units + 100 < cLine
section
variable {X : Cx} {D : Wd} {q : Wq} {W : WX} {α β γ δ : Type}
abbrev SE (X : Cx) (q : Wq) (W : WX) (s : Sx E) (e : Expr) : Prop := Snd (dW X q) W s (RV X.K) (wE X e)
abbrev ST (X : Cx) (q : Wq) (W : WX) (s : Sx Bool) (e : Expr) : Prop := Snd (dW X q) W s RB (wT X e)
abbrev SA (X : Cx) (q : Wq) (W : WX) (s : Sx (List E)) (es : List Expr) : Prop := Snd (dW X q) W s (RVs X.K) (wA X es)
abbrev SO (X : Cx) (q : Wq) (W : WX) (s : Sx (Option Int)) (e : Option Expr) : Prop := Snd (dW X q) W s RO (wO X e)
/-- at the end -/
theorem Fin.here {σ : L2.St} {m : Mp} {H : Hp} {v : α} {G : Hq} {rel : Mp → Hp → α → β → Prop} {Q : β → Hp → Prop} {v' : β} (h : Fin D W σ m H (.ok v G) rel Q) (M : MtG D m H G) (r : rel m H v v') : Q v' H :=
  h m v' H (Ext.refl m H) M r
/-- at the end, behind an extension -/
theorem Fin.to {σ : L2.St} {m m' : Mp} {H H' : Hp} {v : α} {G : Hq} {rel : Mp → Hp → α → β → Prop} {Q : β → Hp → Prop} {v' : β} (h : Fin D W σ m H (.ok v G) rel Q) (e : Ext m H m' H') (M : MtG D m' H' G) (r : rel m' H' v v') : Q v' H' :=
  h m' v' H' e M r
/-- a new object that the small heap does not know -/
theorem Ext.junk {m : Mp} {H : Hp} {p : Addr} {o : HO} (h : H p = none) : Ext m H m (upd H p o) where
  mono _ _ h := h
  stay a u q _ _ := by rw [upd_ne (ne_of_none q h)]; exact q
  tups a xs q := by rw [upd_ne (ne_of_none q h)]; exact q
  new _ _ q := .inl q
  there a q := by
    by_cases e : a = p
    · rw [e]; exact .inl h
    · unfold NT at q; rw [upd_ne e] at q; exact q
theorem ObR.junk {K : PySem.W.Frag} {m : Mp} {H : Hp} {p a : Addr} {o : HO} {u : Ob} (h : H p = none) (r : ObR K m H a u) : ObR K m (upd H p o) a u := by
  have e : Ext m H m (upd H p o) := Ext.junk h
  cases u with
  | lst es => obtain ⟨vs, q, r⟩ := r; exact ⟨vs, by rw [upd_ne (ne_of_none q h)]; exact q, r.ext e⟩
  | rol es =>
    obtain ⟨vs, q, r⟩ := r
    refine ⟨vs, ?_, r.ext e⟩
    rcases q with q | ⟨o, q⟩
    · exact .inl (by rw [upd_ne (ne_of_none q h)]; exact q)
    · exact .inr ⟨o, by rw [upd_ne (ne_of_none q h)]; exact q⟩
  | dct kvs => obtain ⟨vs, q, r⟩ := r; exact ⟨vs, by rw [upd_ne (ne_of_none q h)]; exact q, r.ext e⟩
theorem MtG.junk {m : Mp} {H : Hp} {G : Hq} {p : Addr} {o : HO} (M : MtG D m H G) (h : H p = none) : MtG D m (upd H p o) G :=
  ⟨M.dom, M.cod, M.inj, fun n u a q1 q2 => (M.obj n u a q1 q2).junk h, M.tab.ext fun b o q => by rw [upd_ne (ne_of_none q h)]; exact q⟩

theorem s_c {v : E} {v' : V} {w : TE} (h : ∀ σ H Q, Q v' H → w σ H Q) (r : ∀ m H, RV X.K m H v v') : Snd (dW X q) W (sC v) (RV X.K) w :=
  fun ρ G σ H m Q _ M F => h σ H Q (Fin.here F M (r m H))
theorem s_int {i k p} : SE X q W (sC (.int i)) (.Constant (.int i) k p) := s_c (v' := .int i) (fun σ H Q q => ⟨_, pe_int, q⟩) fun _ _ => .int i
theorem s_bl {b k p} : SE X q W (sC (.bl b)) (.Constant (.bool b) k p) := s_c (v' := .bl b) (fun σ H Q q => ⟨_, pe_bl, q⟩) fun _ _ => .bl b
theorem s_non {k p} : SE X q W (sC .non) (.Constant .none k p) := s_c (v' := .non) (fun σ H Q q => ⟨_, pe_non, q⟩) fun _ _ => .non
theorem s_str {x k p} : SE X q W (sC (.str x)) (.Constant (.str x) k p) := s_c (v' := .str x) (fun σ H Q q => ⟨_, pe_str, q⟩) fun _ _ => .str x
theorem s_var {i : Nat} {x : Str} {p : Pos} (hN : X.N[i]? = some x) (hv : Vis X.env.scope x) (hd : (x == ("__debug__" : Str)) = false) (hcd : (x == ("__classdict__" : Str)) = false) : SE X q W (sVar i) (.Name x p) := by
  intro ρ G σ H m Q ME M F
  refine ⟨_, pe_var hN hv hd hcd, ?_⟩
  cases q : ρ[i]? with
  | none => simp only [sVar, q, Fin] at F
  | some o =>
    cases o with
    | none => simp only [sVar, q, Fin] at F
    | some e =>
      obtain ⟨v, h1, h2⟩ := ME.2 i e q
      have e1 : sVar i ρ G = .ok e G := by simp only [sVar, q]
      rw [e1] at F
      exact ⟨v, h1, Fin.here F M h2⟩
/-- two in a row -/
theorem s_two {a' b' : Type} {sa : Sx α} {sb : Sx β} {ra : Mp → Hp → α → a' → Prop} {rb : Mp → Hp → β → b' → Prop} {wa : L2.St → Hp → (a' → Hp → Prop) → Prop} {wb : L2.St → Hp → (b' → Hp → Prop) → Prop}
    {f : α → β → Hq → R γ} {rel : Mp → Hp → γ → δ → Prop} {op : a' → b' → Hp → (δ → Hp → Prop) → Prop}
    (mono : ∀ m H m' H' x x', Ext m H m' H' → ra m H x x' → ra m' H' x x')
    (ha : Snd (dW X q) W sa ra wa) (hb : Snd (dW X q) W sb rb wb)
    (ho : ∀ x y G σ m H x' y' (Q : δ → Hp → Prop), MtG (dW X q) m H G → ra m H x x' → rb m H y y' → Fin (dW X q) W σ m H (f x y G) rel Q → op x' y' H Q) :
    Snd (dW X q) W (fun ρ G => (sa ρ G).bind fun x G1 => (sb ρ G1).bind fun y G2 => f x y G2) rel (fun σ H Q => wa σ H fun x H1 => wb σ H1 fun y H2 => op x y H2 Q) := by
  intro ρ G σ H m Q ME M F
  refine ha ρ G σ H m _ ME M (F.bind fun x G1 m1 x' H1 _ e1 M1 r1 F1 => ?_)
  refine hb ρ G1 σ H1 m1 _ (ME.ext e1) M1 (F1.bind fun y G2 m2 y' H2 _ e2 M2 r2 F2 => ?_)
  exact ho x y G2 σ m2 H2 x' y' Q M2 (mono _ _ _ _ _ _ e2 r1) r2 F2
theorem s_one {a' : Type} {sa : Sx α} {ra : Mp → Hp → α → a' → Prop} {wa : L2.St → Hp → (a' → Hp → Prop) → Prop} {f : α → Hq → R γ} {rel : Mp → Hp → γ → δ → Prop} {op : a' → Hp → (δ → Hp → Prop) → Prop}
    (ha : Snd (dW X q) W sa ra wa) (ho : ∀ x G σ m H x' (Q : δ → Hp → Prop), MtG (dW X q) m H G → ra m H x x' → Fin (dW X q) W σ m H (f x G) rel Q → op x' H Q) :
    Snd (dW X q) W (fun ρ G => (sa ρ G).bind fun x G1 => f x G1) rel (fun σ H Q => wa σ H fun x H1 => op x H1 Q) := by
  intro ρ G σ H m Q ME M F
  refine ha ρ G σ H m _ ME M (F.bind fun x G1 m1 x' H1 _ e1 M1 r1 F1 => ?_)
  exact ho x G1 σ m1 H1 x' Q M1 r1 F1
theorem RV.extm {K : PySem.W.Frag} : ∀ m H m' H' x x', Ext m H m' H' → RV K m H x x' → RV K m' H' x x' := fun _ _ _ _ _ _ e r => r.ext e
theorem optR_fin {σ : L2.St} {m : Mp} {H : Hp} {o : Option α} {G : Hq} {rel : Mp → Hp → α → β → Prop} {Q : β → Hp → Prop} (h : Fin (dW X q) W σ m H (optR o G) rel Q) : ∃ a, o = some a ∧ Fin (dW X q) W σ m H (.ok a G) rel Q := by
  cases o with
  | none => exact False.elim h
  | some a => exact ⟨a, rfl, h⟩
/-! ### operators -/
theorem cmul_of {i j : Int} (h : mulOk i j = true) : CMul i j := by
  unfold mulOk at h
  rw [Bool.or_eq_true, decide_eq_true_eq, decide_eq_true_eq] at h
  exact h
def rRepW (K : PySem.W.Frag) : R2 := fun x y H Q => ∃ l k xs, x = .ref l ∧ y = .int k ∧ SqT K H l xs ∧ xs ≠ [] ∧ 2 ≤ k ∧ k ≤ 10000 ∧ xs.length ≤ 1000 ∧ ∀ p, H p = none → Q (.ref p) (upd H p (.tup (List.replicate k.toNat xs).flatten))
theorem op_repW : OpR X (binaryOp .Mult) (rRepW X.K) := by
  intro pins s σ H x y v u Q I rx ry h
  obtain ⟨l, k, xs, rfl, rfl, hT, hne, h1, h2, hz, q⟩ := h
  cases rx
  obtain ⟨t, rfl⟩ := ry
  obtain ⟨its, r, ⟨⟨cls, dd, data, sl⟩, ho, hc, n, hd⟩, hs⟩ := I.tuple hT
  simp only at hc hd
  subst hc hd
  have hle : its.length = xs.length := r.length.symm
  have hn : its ≠ [] := fun e => hne (by
    rw [e] at hle
    exact List.eq_nil_of_length_eq_zero hle.symm)
  have hi : its.toArray.isEmpty = false := by
    cases its with
    | nil => exact absurd rfl hn
    | cons a b => rfl
  have hsz0 : its.toArray.size = xs.length := by rw [List.size_toArray, hle]
  have hm : ((its.toArray.size : Nat) : Int) * k ≤ 10000000 := by
    rw [hsz0]
    have a1 : ((xs.length : Nat) : Int) * k ≤ 1000 * k := Int.mul_le_mul_of_nonneg_right (by omega) (by omega)
    omega
  have flen0 : k.toNat * xs.length ≤ 10000 * 1000 := Nat.mul_le_mul (by omega) hz
  have flen : (List.replicate k.toNat its).flatten.length ≤ sizeLine := by
    rw [PyProof.Rows.lm_len_rep_flat, hle, sizeLine_eq]
    omega
  have c0 : (decide (k < -(2 ^ 63)) || decide (k ≥ 2 ^ 63)) = false := by
    rw [decide_eq_false (by omega), decide_eq_false (by omega)] <;> rfl
  have c1 : (its.toArray.isEmpty || k == 1) = false := by
    rw [hi, Bool.false_or]
    exact beq_eq_false_iff_ne.mpr (by omega)
  have c2 : (decide (k ≤ 0) || its.toArray.isEmpty) = false := by
    rw [hi, Bool.or_false]
    exact decide_eq_false (by omega)
  have c4 : Builtin.Tuple.tupleTooMany (((its.toArray.size : Nat) : Int) * k) = false := by
    unfold Builtin.Tuple.tupleTooMany
    rw [sizeLine_eq]
    exact decide_eq_false (by omega)
  refine wpAny_binaryOp_repeat_ref (T := "tuple") (U := "int") (by decide) ⟨_, ho, rfl⟩ (fun s' => typeIs_int s' k t) noFill_tuple_mul PySem.F.fills_int_mul PySem.F.slot_int_rmul repeat_tuple PySem.F.slot_int_index.lookup
    (call_meets PySem.F.slot_int_rmul (typeIs_int s k t) PySem.F.entry_int_rmul (PySem.F.args_int_rmul_2 _ _) (int_rmul_tuple k t l its.toArray n dd sl)
      ⟨ho, rfl, ⟨_, ho, rfl⟩, call_meets PySem.F.slot_tuple_mul ⟨_, ho, rfl⟩ PySem.F.entry_tuple_mul (PySem.F.args_tuple_mul_2 _ _) (tuple_mulW l its.toArray n dd sl k t c0 c1 c2 (by omega) c4 (by rw [size_rep, List.size_toArray]; exact flen)) ⟨ho, ?_⟩⟩)
  rw [size_rep]
  refine ⟨.ref s.heap.objs.size, _, I.laid (t' := s.toks) (o := .tup (List.replicate k.toNat xs).flatten) (fun b ob q => Heap.get?_push_of_some _ q) (Nat.le_refl _) ?_, rfl, q _ (I.hok.fresh (Nat.le_refl _))⟩
  exact ⟨by rw [PyProof.Rows.lm_len_rep_flat, sizeLine_eq]; omega, _, r.rep k.toNat, IsTup.new _ _⟩
theorem RVs.rep {K : PySem.W.Frag} {m : Mp} {H : Hp} {xs : List E} {vs : List V} (r : RVs K m H xs vs) : ∀ n : Nat, RVs K m H (List.replicate n xs).flatten (List.replicate n vs).flatten
  | 0 => .nil
  | n + 1 => by
    rw [List.replicate_succ, List.replicate_succ, List.flatten_cons, List.flatten_cons]
    exact r.append (RVs.rep r n)
theorem rep_ok {xs : List E} {k : Int} {a : Addr} {vs : List V} {G : Hq} {σ : L2.St} {m : Mp} {H : Hp} {Q : VK} (M : MtG (dW X q) m H G) (ta : TupAt X.K H a vs) (ra : RVs X.K m H xs vs) (hl : xs ≠ [] ∧ 2 ≤ k ∧ k ≤ 10000 ∧ xs.length ≤ 1000)
    (F : Fin (dW X q) W σ m H (.ok (.tup (List.replicate k.toNat xs).flatten) G) (RV X.K) Q) : wOp X (binaryOp .Mult) (.ref a) (.int k) H Q := by
  refine ⟨_, op_repW, a, k, vs, rfl, rfl, ta.sq, fun e => ?_, hl.2.1, hl.2.2.1, by rw [← ra.length]; exact hl.2.2.2, fun p hp => F.to (Ext.junk hp) (M.junk hp) (.tup (.inl upd_same) ((ra.rep k.toNat).ext (Ext.junk hp)))⟩
  subst e
  cases ra
  exact hl.1 rfl
theorem op_bin {o : BOp} {x y : E} {G : Hq} {σ : L2.St} {m : Mp} {H : Hp} {x' y' : V} {Q : VK} (M : MtG (dW X q) m H G) (rx : RV X.K m H x x') (ry : RV X.K m H y y') (F : Fin (dW X q) W σ m H (optR (binop o x y) G) (RV X.K) Q) :
    wOp X (binaryOp o.py) x' y' H Q := by
  obtain ⟨z, hz, F⟩ := optR_fin F
  cases o with
  | add =>
    cases rx with
    | int i =>
      cases ry with
      | int j => cases hz; exact ⟨_, op_add, i, j, rfl, rfl, F.here M (.int _)⟩
      | _ => cases hz
    | str a =>
      cases ry with
      | str b =>
        simp only [binop] at hz
        split at hz
        · rename_i hl
          cases hz
          exact ⟨_, op_add_str, a, b, rfl, rfl, hl, F.here M (.str _)⟩
        · cases hz
      | _ => cases hz
    | tup ta ra =>
      cases ry with
      | tup tb rb =>
        simp only [binop] at hz
        split at hz
        · rename_i hl
          cases hz
          refine ⟨_, op_catA, _, _, _, _, rfl, rfl, ta.sq, tb.sq, by rw [← ra.length, ← rb.length]; exact hl, fun e => ?_, fun _ e => ?_, fun _ _ p hp => F.to (Ext.junk hp) (M.junk hp) (.tup (.inl upd_same) ((ra.append rb).ext (Ext.junk hp)))⟩
          · subst e
            cases ra
            exact F.here M (.tup tb rb)
          · subst e
            cases rb
            exact F.here M (.tup ta (by rw [List.append_nil]; exact ra))
        · cases hz
      | _ => cases hz
    | _ => cases hz
  | sub =>
    cases rx with
    | int i =>
      cases ry with
      | int j => cases hz; exact ⟨_, op_sub, i, j, rfl, rfl, F.here M (.int _)⟩
      | _ => cases hz
    | _ => cases hz
  | mul =>
    cases rx with
    | int i =>
      cases ry with
      | int j =>
        simp only [binop] at hz
        split at hz
        · rename_i hl
          cases hz
          exact ⟨_, op_mul, i, j, rfl, rfl, cmul_of hl, F.here M (.int _)⟩
        · cases hz
      | _ => cases hz
    | tup ta ra =>
      cases ry with
      | int k =>
        simp only [binop] at hz
        split at hz
        · rename_i hl
          cases hz
          exact rep_ok M ta ra hl F
        · cases hz
      | _ => cases hz
    | _ => cases hz
  | fdiv =>
    cases rx with
    | int i =>
      cases ry with
      | int j =>
        simp only [binop] at hz
        split at hz
        · rename_i hl
          cases hz
          exact ⟨_, op_fdivN, i, j, rfl, rfl, hl, F.here M (.int _)⟩
        · cases hz
      | _ => cases hz
    | _ => cases hz
  | mod =>
    cases rx with
    | int i =>
      cases ry with
      | int j =>
        simp only [binop] at hz
        split at hz
        · rename_i hl
          cases hz
          exact ⟨_, op_modN, i, j, rfl, rfl, hl, F.here M (.int _)⟩
        · cases hz
      | _ => cases hz
    | _ => cases hz
theorem s_bin {o : BOp} {sa sb : Sx E} {a b : Expr} {p : Pos} (ha : SE X q W sa a) (hb : SE X q W sb b) : SE X q W (sBin o sa sb) (.BinOp a o.py b p) := by
  intro ρ G σ H m Q ME M F
  exact ⟨_, pe_op op_w pe_w pe_w, s_two (op := wOp X (binaryOp o.py)) RV.extm ha hb (fun x y G σ m H x' y' Q M rx ry F => op_bin M rx ry F) ρ G σ H m Q ME M F⟩
/-! ### comparisons -/
theorem eqE_op {x y : E} {b : Bool} {m : Mp} {H : Hp} {x' y' : V} (hu : X.A.units + 100 < cLine) (rx : RV X.K m H x x') (ry : RV X.K m H y y') (h : eqE x y = some b) :
    OpR X (compareOp .Eq) (fun u v H' Q => u = x' ∧ v = y' ∧ H' = H ∧ Q (.bl b) H) ∧ OpR X (compareOp .NotEq) (fun u v H' Q => u = x' ∧ v = y' ∧ H' = H ∧ Q (.bl (!b)) H) := by
  unfold eqE at h
  cases qx : x.dat with
  | none => rw [qx] at h; cases h
  | some d =>
    cases qy : y.dat with
    | none => rw [qx, qy] at h; cases h
    | some e =>
      rw [qx, qy] at h
      simp only at h
      split at h
      · rename_i hd
        cases h
        have hm : X.A.units + min d.depth e.depth < cLine := by
          have h1 : min d.depth e.depth ≤ d.depth := Nat.min_le_left _ _
          have h2 : min d.depth e.depth ≤ e.depth := Nat.min_le_right _ _
          omega
        constructor
        · intro pins s σ H' u v uu vv Q I ru rv h
          obtain ⟨rfl, rfl, rfl, q⟩ := h
          obtain ⟨as, r1⟩ := Dp.reads I d u uu (rx.dp qx) ru
          obtain ⟨bs, r2⟩ := Dp.reads I e v vv (ry.dp qy) rv
          exact SeqAt.eq_plain r1 r2 (E.dat_plain qx) (E.dat_plain qy) hm ⟨.bl _, _, I, rfl, q⟩
        · intro pins s σ H' u v uu vv Q I ru rv h
          obtain ⟨rfl, rfl, rfl, q⟩ := h
          obtain ⟨as, r1⟩ := Dp.reads I d u uu (rx.dp qx) ru
          obtain ⟨bs, r2⟩ := Dp.reads I e v vv (ry.dp qy) rv
          exact SeqAt.ne_plain r1 r2 (E.dat_plain qx) (E.dat_plain qy) hm ⟨.bl _, _, I, rfl, q⟩
      · cases h
/-- a comparison's value -/
theorem op_cmp {o : COp} {x y : E} {b : Bool} {m : Mp} {H : Hp} {x' y' : V} {Q : VK} (hu : X.A.units + 100 < cLine) (rx : RV X.K m H x x') (ry : RV X.K m H y y') (h : cmpop o x y = some b) (q : Q (.bl b) H) :
    wOp X (compareOp o.py) x' y' H Q := by
  have hints : ∀ {r : Int → Int → Bool} {op : CmpOp}, OpR X (compareOp op) (rI0 fun i j => .bl (r i j)) → (∀ x y b, cmpop o x y = some b → ∃ i j, x = .int i ∧ y = .int j ∧ b = r i j) → wOp X (compareOp op) x' y' H Q := by
    intro r op ho hc
    obtain ⟨i, j, rfl, rfl, rfl⟩ := hc x y b h
    cases rx
    cases ry
    exact ⟨_, ho, i, j, rfl, rfl, q⟩
  cases o with
  | eq => exact ⟨_, (eqE_op hu rx ry h).1, rfl, rfl, rfl, q⟩
  | ne =>
    have h2 : (eqE x y).map (!·) = some b := h
    cases q2 : eqE x y with
    | none => rw [q2] at h2; cases h2
    | some c =>
      rw [q2] at h2
      cases h2
      exact ⟨_, (eqE_op hu rx ry q2).2, rfl, rfl, rfl, q⟩
  | lt =>
    exact hints op_lt fun x y b h => by
      cases x <;> cases y <;> first
        | (rename_i i j; exact ⟨i, j, rfl, rfl, (Option.some.inj h).symm⟩)
        | (simp only [cmpop] at h; cases h)
  | le =>
    exact hints op_le fun x y b h => by
      cases x <;> cases y <;> first
        | (rename_i i j; exact ⟨i, j, rfl, rfl, (Option.some.inj h).symm⟩)
        | (simp only [cmpop] at h; cases h)
  | gt =>
    exact hints op_gt fun x y b h => by
      cases x <;> cases y <;> first
        | (rename_i i j; exact ⟨i, j, rfl, rfl, (Option.some.inj h).symm⟩)
        | (simp only [cmpop] at h; cases h)
  | ge =>
    exact hints op_ge fun x y b h => by
      cases x <;> cases y <;> first
        | (rename_i i j; exact ⟨i, j, rfl, rfl, (Option.some.inj h).symm⟩)
        | (simp only [cmpop] at h; cases h)
theorem nomark' {o : COp} (b : Expr) : behindInMarks o.py b = false := by
  cases o <;> exact nomark b
theorem st_cmp {o : COp} {sa sb : Sx E} {a b : Expr} {p : Pos} (C : CxG X W) (ha : SE X q W sa a) (hb : SE X q W sb b) : ST X q W (sCmp o sa sb) (.Compare a [o.py] [b] p) := by
  intro ρ G σ H m Q ME M F
  refine ⟨_, pt_cmpR op_w pe_w pe_w (nomark' b), ?_⟩
  refine s_two (op := fun x y H Q => wOp X (compareOp o.py) x y H fun x H' => ∃ k, x = .bl k ∧ Q k H') RV.extm ha hb (fun x y G σ m H x' y' Q M rx ry F => ?_) ρ G σ H m Q ME M F
  obtain ⟨b, hb, F⟩ := optR_fin F
  exact op_cmp C.un rx ry hb ⟨b, rfl, F.here M rfl⟩
theorem s_cmp {o : COp} {sa sb : Sx E} {a b : Expr} {p : Pos} (C : CxG X W) (ha : SE X q W sa a) (hb : SE X q W sb b) : SE X q W (sBl (sCmp o sa sb)) (.Compare a [o.py] [b] p) := by
  intro ρ G σ H m Q ME M F
  refine ⟨_, pe_cmpR op_w pe_w pe_w (nomark' b), ?_⟩
  refine ha ρ G σ H m _ ME M ?_
  unfold sBl sCmp at F
  cases qa : sa ρ G with
  | bad => rw [qa] at F; exact F
  | ex c G1 => rw [qa] at F; exact F
  | ok x G1 =>
    rw [qa] at F
    simp only [R.bind_ok] at F
    intro m1 x' H1 e1 M1 r1
    refine hb ρ G1 σ H1 m1 _ (ME.ext e1) M1 ?_
    cases qb : sb ρ G1 with
    | bad => rw [qb] at F; exact F
    | ex c G2 => rw [qb] at F; exact Fin.ext (β := V) (rel := RV X.K) (Q := Q) F e1
    | ok y G2 =>
      rw [qb] at F
      simp only [R.bind_ok] at F
      intro m2 y' H2 e2 M2 r2
      cases qc : cmpop o x y with
      | none => rw [qc] at F; exact F.elim
      | some b =>
        rw [qc] at F
        exact op_cmp C.un (r1.ext e2) r2 qc (F m2 (.bl b) H2 (e1.trans e2) M2 (.bl b))
end
end Lt
end
section
set_option Elab.async false
set_option linter.all false
set_option maxRecDepth 100000
/-! Lt: soundness of expressions, further. -/
namespace Lt
open PySem PySem.Spec PyProof.Rows L2
section
variable {X : Cx} {q : Wq} {W : WX} {α β γ δ : Type}
def wW (X : Cx) (e : Expr) : TT := fun σ H Q => ∃ t, PW X e t ∧ t σ H Q
theorem pw_w {e : Expr} : PW X e (wW X e) := ⟨fun wh pins s σ H Q I ⟨t, h, q⟩ => h.run wh pins s σ H Q I q⟩
abbrev SW (X : Cx) (q : Wq) (W : WX) (s : Sx Bool) (e : Expr) : Prop := Snd (dW X q) W s RB (wW X e)
/-- a bool's meaning as a value -/
theorem fin_bl {σ : L2.St} {m : Mp} {H : Hp} {r : R Bool} {Q : VK} (h : Fin (dW X q) W σ m H (r.bind fun b G1 => .ok (.bl b) G1) (RV X.K) Q) : Fin (dW X q) W σ m H r RB (fun b H' => Q (.bl b) H') := by
  cases r with
  | ok b G => exact fun m' b' H' e M rb => by cases rb; exact h m' (.bl b) H' e M (.bl b)
  | ex c G => exact h
  | bad => exact h
theorem RB.extm : ∀ (m : Mp) (H : Hp) (m' : Mp) (H' : Hp) (x x' : Bool), Ext m H m' H' → RB m H x x' → RB m' H' x x' := fun _ _ _ _ _ _ _ r => r
/-- .. of one place -/
theorem st_one {s : Sx E} {e : Expr} {f : E → Hq → R Bool} {op : V → Hp → (Bool → Hp → Prop) → Prop} (ha : SE X q W s e)
    (ho : ∀ x G σ m H x' (Q : Bool → Hp → Prop), MtG (dW X q) m H G → RV X.K m H x x' → Fin (dW X q) W σ m H (f x G) RB Q → op x' H Q) : Snd (dW X q) W (fun ρ G => (s ρ G).bind fun x G1 => f x G1) RB (fun σ H Q => wE X e σ H fun x H1 => op x H1 Q) := s_one ha ho
theorem bl_of {s : Sx Bool} {e : Expr} {t : TE} (ht : PE X e t) (h : Snd (dW X q) W s RB (fun σ H Q => t σ H fun x H1 => ∃ b, x = .bl b ∧ Q b H1)) (mono : ∀ σ H (Q Q' : VK), (∀ v H', Q v H' → Q' v H') → t σ H Q → t σ H Q') : SE X q W (sBl s) e := by
  intro ρ G σ H m Q ME M F
  refine ⟨t, ht, mono σ H _ _ (fun v H' q => ?_) (h ρ G σ H m (fun b H' => Q (.bl b) H') ME M (fin_bl F))⟩
  obtain ⟨b, rfl, q⟩ := q
  exact q
theorem wE.mono {e : Expr} {σ : L2.St} {H : Hp} {Q Q' : VK} (k : ∀ v H', Q v H' → Q' v H') (h : wE X e σ H Q) : wE X e σ H Q' := by
  obtain ⟨t, ht, q⟩ := h
  refine ⟨fun σ1 H1 Q1 => ∃ Q2 : VK, t σ1 H1 Q2 ∧ ∀ v H', Q2 v H' → Q1 v H', ⟨fun pins s σ1 H1 Q1 I hw => ?_⟩, Q, q, k⟩
  obtain ⟨Q2, q2, k2⟩ := hw
  exact thn (ht.run pins s σ1 H1 Q2 I q2) fun u s' ⟨v, H', I', r, q⟩ => ⟨v, H', I', r, k2 v H' q⟩
theorem st_isN {s : Sx E} {a : Expr} {k p1 p} (ha : SE X q W s a) : ST X q W (sIsN s) (.Compare a [.Is] [.Constant .none k p1] p) := by
  intro ρ G σ H m Q ME M F
  refine ⟨_, pt_cmp (pc_isN pe_w), ?_⟩
  refine st_one (op := fun x H1 Q => ∃ c, V.bl (decide (x = .non)) = .bl c ∧ Q c H1) ha (fun x G σ m H x' Q M rx F => ⟨_, rfl, F.here M ?_⟩) ρ G σ H m Q ME M F
  cases rx <;> first | rfl | (symm; exact decide_eq_false (fun h => by cases h))
theorem st_ntN {s : Sx E} {a : Expr} {k p1 p} (ha : SE X q W s a) : ST X q W (sNtN s) (.Compare a [.IsNot] [.Constant .none k p1] p) := by
  intro ρ G σ H m Q ME M F
  refine ⟨_, pt_cmp (pc_notN pe_w), ?_⟩
  refine st_one (op := fun x H1 Q => ∃ c, V.bl (!decide (x = .non)) = .bl c ∧ Q c H1) ha (fun x G σ m H x' Q M rx F => ⟨_, rfl, F.here M ?_⟩) ρ G σ H m Q ME M F
  show (!isNon x) = !decide (x' = .non)
  congr 1
  cases rx <;> first | rfl | (symm; exact decide_eq_false (fun h => by cases h))
theorem s_isN {s : Sx E} {a : Expr} {k p1 p} (ha : SE X q W s a) : SE X q W (sBl (sIsN s)) (.Compare a [.Is] [.Constant .none k p1] p) :=
  bl_of (pe_cmp (pc_isN pe_w)) (fun ρ G σ H m Q ME M F => st_one (op := fun x H1 Q => ∃ c, V.bl (decide (x = .non)) = .bl c ∧ Q c H1) ha (fun x G σ m H x' Q M rx F => ⟨_, rfl, F.here M (by
    cases rx <;> first | rfl | (symm; exact decide_eq_false (fun h => by cases h)))⟩) ρ G σ H m Q ME M F) fun σ H Q Q' k h => wE.mono (fun _ _ q => k _ _ q) h
theorem s_ntN {s : Sx E} {a : Expr} {k p1 p} (ha : SE X q W s a) : SE X q W (sBl (sNtN s)) (.Compare a [.IsNot] [.Constant .none k p1] p) :=
  bl_of (pe_cmp (pc_notN pe_w)) (fun ρ G σ H m Q ME M F => st_one (op := fun x H1 Q => ∃ c, V.bl (!decide (x = .non)) = .bl c ∧ Q c H1) ha (fun x G σ m H x' Q M rx F => ⟨_, rfl, F.here M (by
    show (!isNon x) = !decide (x' = .non)
    congr 1
    cases rx <;> first | rfl | (symm; exact decide_eq_false (fun h => by cases h)))⟩) ρ G σ H m Q ME M F) fun σ H Q Q' k h => wE.mono (fun _ _ q => k _ _ q) h
/-! ### truth -/
theorem tru_v {x : E} {x' : V} {b : Bool} {m : Mp} {H : Hp} (r : RV X.K m H x x') (h : truthy x = some b) : TruV X.K x' H b := by
  cases r with
  | non => cases h; rfl
  | bl b => cases h; rfl
  | int i => cases h; rfl
  | str z =>
    simp only [truthy] at h
    split at h
    · rename_i hl
      cases h
      refine ⟨hl, ?_⟩
      rw [Bool.eq_iff_iff]
      simp
    · cases h
  | tup t rs =>
    cases h
    refine .inr (.inl ⟨_, t.sq, ?_⟩)
    cases rs <;> rfl
  | ref _ => cases h
theorem st_tru {s : Sx E} {e : Expr} (ha : SE X q W s e) (he : ∀ whole, isTrue e X.env whole = (do let v ← whole; standAt e.pos; holding [v] (PySem.truthy v))) : ST X q W (sTru s) e := by
  intro ρ G σ H m Q ME M F
  refine ⟨_, pt_truth pe_w he, ?_⟩
  refine st_one (op := fun x H1 Q => ∃ k, TruV X.K x H1 k ∧ Q k H1) ha (fun x G σ m H x' Q M rx F => ?_) ρ G σ H m Q ME M F
  obtain ⟨b, hb, F⟩ := optR_fin F
  exact ⟨b, tru_v rx hb, F.here M rfl⟩
theorem RV.asB {x : E} {x' : V} {b : Bool} {K : PySem.W.Frag} {m : Mp} {H : Hp} (r : RV K m H x x') (h : asB x = some b) : x' = .bl b := by
  cases r <;> cases h; rfl
/-! ### not, and, or -/
theorem st_not {s : Sx Bool} {a : Expr} {p : Pos} (ha : ST X q W s a) : ST X q W (sNot s) (.UnaryOp .Not a p) := by
  intro ρ G σ H m Q ME M F
  refine ⟨_, pt_not pt_w, ?_⟩
  exact s_one (op := fun c H1 Q => Q (!c) H1) ha (fun x G σ m H x' Q M rx F => by cases rx; exact F.here M rfl) ρ G σ H m Q ME M F
theorem s_not {s : Sx E} {a : Expr} {p : Pos} (ha : SE X q W s a) : SE X q W (sBl (sNot (sAsB s))) (.UnaryOp .Not a p) := by
  intro ρ G σ H m Q ME M F
  refine ⟨_, pe_not pe_w, ?_⟩
  have F2 := fin_bl F
  refine ha ρ G σ H m _ ME M ?_
  cases q : s ρ G with
  | bad => simp only [sNot, sAsB, q, R.bind_bad] at F2; exact F2
  | ex c G1 => simp only [sNot, sAsB, q, R.bind_ex] at F2; exact F2
  | ok x G1 =>
    simp only [sNot, sAsB, q, R.bind_ok] at F2
    intro m1 x' H1 e1 M1 r1
    cases qb : asB x with
    | none => rw [qb] at F2; exact F2.elim
    | some b =>
      rw [qb] at F2
      exact ⟨b, r1.asB qb, F2 m1 _ H1 e1 M1 rfl⟩
theorem sw_and {s u : Sx Bool} {a b : Expr} {r : List Expr} {p : Pos} (ha : ST X q W s a) (hb : SW X q W u (.BoolOp .And (b :: r) p)) : SW X q W (sAnd s u) (.BoolOp .And (a :: b :: r) p) := by
  intro ρ G σ H m Q ME M F
  refine ⟨_, pw_and pt_w pw_w, ?_⟩
  refine ha ρ G σ H m _ ME M (F.bind fun x G1 m1 x' H1 _ e1 M1 r1 F1 => ?_)
  cases r1
  cases x with
  | true => exact hb ρ G1 σ H1 m1 Q (ME.ext e1) M1 F1
  | false => exact Fin.here F1 M1 rfl
theorem sw_or {s u : Sx Bool} {a b : Expr} {r : List Expr} {p : Pos} (ha : ST X q W s a) (hb : SW X q W u (.BoolOp .Or (b :: r) p)) : SW X q W (sOr s u) (.BoolOp .Or (a :: b :: r) p) := by
  intro ρ G σ H m Q ME M F
  refine ⟨_, pw_or pt_w pw_w, ?_⟩
  refine ha ρ G σ H m _ ME M (F.bind fun x G1 m1 x' H1 _ e1 M1 r1 F1 => ?_)
  cases r1
  cases x with
  | true => exact Fin.here F1 M1 rfl
  | false => exact hb ρ G1 σ H1 m1 Q (ME.ext e1) M1 F1
theorem sw_and1 {s : Sx Bool} {a : Expr} {p : Pos} (ha : ST X q W s a) : SW X q W s (.BoolOp .And [a] p) := fun ρ G σ H m Q ME M F => ⟨_, pw_and1 pt_w, ha ρ G σ H m Q ME M F⟩
theorem sw_or1 {s : Sx Bool} {a : Expr} {p : Pos} (ha : ST X q W s a) : SW X q W s (.BoolOp .Or [a] p) := fun ρ G σ H m Q ME M F => ⟨_, pw_or1 pt_w, ha ρ G σ H m Q ME M F⟩
theorem st_w {s : Sx Bool} {a : Expr} (ha : SW X q W s a) : ST X q W s a := fun ρ G σ H m Q ME M F => ⟨_, PW.pt pw_w, ha ρ G σ H m Q ME M F⟩
/-- as values -/
theorem s_asB {s : Sx E} {a : Expr} (ha : SE X q W s a) : Snd (dW X q) W (sAsB s) RB (fun σ H Q => wE X a σ H fun x H1 => ∃ c, x = .bl c ∧ Q c H1) := by
  intro ρ G σ H m Q ME M F
  refine s_one (op := fun x H1 Q => ∃ c, x = .bl c ∧ Q c H1) ha (fun x G σ m H x' Q M rx F => ?_) ρ G σ H m Q ME M F
  obtain ⟨b, hb, F⟩ := optR_fin F
  exact ⟨b, rx.asB hb, F.here M rfl⟩
theorem sv_and1 {s : Sx E} {a : Expr} {p : Pos} {op} (ha : SE X q W s a) : Snd (dW X q) W (sAsB s) RB (fun σ H Q => wE X (.BoolOp op [a] p) σ H fun x H1 => ∃ c, x = .bl c ∧ Q c H1) :=
  fun ρ G σ H m Q ME M F => ⟨_, pe_one pe_w, s_asB ha ρ G σ H m Q ME M F⟩
theorem sv_and {s : Sx E} {u : Sx Bool} {a b : Expr} {r : List Expr} {p : Pos} (ha : SE X q W s a) (hb : Snd (dW X q) W u RB (fun σ H Q => wE X (.BoolOp .And (b :: r) p) σ H fun x H1 => ∃ c, x = .bl c ∧ Q c H1)) :
    Snd (dW X q) W (sAnd (sAsB s) u) RB (fun σ H Q => wE X (.BoolOp .And (a :: b :: r) p) σ H fun x H1 => ∃ c, x = .bl c ∧ Q c H1) := by
  intro ρ G σ H m Q ME M F
  refine ⟨_, pe_and pe_w pe_w, ?_⟩
  refine s_asB ha ρ G σ H m _ ME M (F.bind fun x G1 m1 x' H1 _ e1 M1 r1 F1 => ?_)
  cases r1
  cases x with
  | true => exact hb ρ G1 σ H1 m1 Q (ME.ext e1) M1 F1
  | false => exact ⟨false, rfl, Fin.here F1 M1 rfl⟩
theorem sv_or {s : Sx E} {u : Sx Bool} {a b : Expr} {r : List Expr} {p : Pos} (ha : SE X q W s a) (hb : Snd (dW X q) W u RB (fun σ H Q => wE X (.BoolOp .Or (b :: r) p) σ H fun x H1 => ∃ c, x = .bl c ∧ Q c H1)) :
    Snd (dW X q) W (sOr (sAsB s) u) RB (fun σ H Q => wE X (.BoolOp .Or (a :: b :: r) p) σ H fun x H1 => ∃ c, x = .bl c ∧ Q c H1) := by
  intro ρ G σ H m Q ME M F
  refine ⟨_, pe_or pe_w pe_w, ?_⟩
  refine s_asB ha ρ G σ H m _ ME M (F.bind fun x G1 m1 x' H1 _ e1 M1 r1 F1 => ?_)
  cases r1
  cases x with
  | true => exact ⟨true, rfl, Fin.here F1 M1 rfl⟩
  | false => exact hb ρ G1 σ H1 m1 Q (ME.ext e1) M1 F1
theorem s_vB {s : Sx Bool} {a : Expr} (h : Snd (dW X q) W s RB (fun σ H Q => wE X a σ H fun x H1 => ∃ c, x = .bl c ∧ Q c H1)) : SE X q W (sBl s) a := by
  intro ρ G σ H m Q ME M F
  refine wE.mono (fun v H' q => ?_) (h ρ G σ H m (fun b H' => Q (.bl b) H') ME M (fin_bl F))
  obtain ⟨b, rfl, q⟩ := q
  exact q
/-! ### a if t else b -/
theorem s_ifx {s : Sx Bool} {u v : Sx E} {c a b : Expr} {p : Pos} (hc : ST X q W s c) (ha : SE X q W u a) (hb : SE X q W v b) : SE X q W (sIf s u v) (.IfExp c a b p) := by
  intro ρ G σ H m Q ME M F
  refine ⟨_, pe_ifExp pt_w pe_w pe_w, ?_⟩
  refine hc ρ G σ H m _ ME M (F.bind fun x G1 m1 x' H1 _ e1 M1 r1 F1 => ?_)
  cases r1
  cases x with
  | true => exact ha ρ G1 σ H1 m1 Q (ME.ext e1) M1 F1
  | false => exact hb ρ G1 σ H1 m1 Q (ME.ext e1) M1 F1
/-! ### displays, arguments -/
theorem sa_nil : SA X q W sNil [] := fun ρ G σ H m Q ME M F => ⟨_, pa_nil, Fin.here F M .nil⟩
theorem sa_cons {s : Sx E} {u : Sx (List E)} {e : Expr} {r : List Expr} (hs : starEach (e :: r) X.env = (false, eval e X.env) :: starEach r X.env) (ha : SE X q W s e) (hr : SA X q W u r) : SA X q W (sCons s u) (e :: r) := by
  intro ρ G σ H m Q ME M F
  refine ⟨_, pa_cons pe_w pa_w hs, ?_⟩
  refine ha ρ G σ H m _ ME M (F.bind fun x G1 m1 x' H1 _ e1 M1 r1 F1 => ?_)
  refine hr ρ G1 σ H1 m1 _ (ME.ext e1) M1 (F1.bind fun xs G2 m2 xs' H2 _ e2 M2 r2 F2 => ?_)
  exact Fin.here F2 M2 (.cons (r1.ext e2) r2)
theorem s_tup {s : Sx (List E)} {es : List Expr} {k : Nat} {p : Pos} (ha : SA X q W s es) : SE X q W (sTup s) (.Tuple es k p) := by
  intro ρ G σ H m Q ME M F
  refine ⟨_, pe_tup pa_w, ?_⟩
  refine ha ρ G σ H m _ ME M (F.bind fun xs G1 m1 xs' H1 _ e1 M1 r1 F1 => ?_)
  split at F1
  · rename_i hl
    refine ⟨by rw [← r1.length]; exact hl, fun q hq => ?_⟩
    exact Fin.to F1 (Ext.junk hq) (M1.junk hq) (.tup (.inl upd_same) (r1.ext (Ext.junk hq)))
  · exact F1.elim
/-! ### x[i], x[a:b] -/
def wIx (X : Cx) : R2 := fun x y H Q => ∃ r, IxR X r ∧ r x y H Q
theorem ix_w : IxR X (wIx X) := fun value slice pins s σ H x y v u Q I rx ry ⟨r, h, q⟩ hs => h value slice pins s σ H x y v u Q I rx ry q hs
theorem ix_dict (hu : X.A.units + 1 < cLine) : IxR X (fun x y H Q => ∃ a v, x = .ref a ∧ DGet H a y (some v) ∧ Q v H) := by
  intro value slice pins s σ H x y v u Q I rx ry h hs
  obtain ⟨a, z, rfl, g, q⟩ := h
  obtain rfl : v = Value.ref a := rx
  exact tail_any (ops := [.ref a, u]) (dict_typeIs I g) PySem.F.slot_dict_getitem.lookup (d_getItem hu I g ry fun w' s3 I3 rw' => ⟨z, H, I3, rw', q⟩) hs
theorem RKs.val {K : PySem.W.Frag} {m : Mp} {H : Hp} {x : Str} : ∀ {kvs : List (Str × E)} {vs : List (Key × V)} {e : E}, RKs K m H kvs vs → kvs.lookup x = some e → ∃ v, valV vs (.inr x) = some v ∧ RV K m H e v
  | [], _, _, .nil, h => by cases h
  | (y, a) :: kvs, (_, v) :: vs, e, .cons r rs, h => by
    rw [List.lookup_cons] at h
    cases q : x == y with
    | true =>
      rw [q] at h
      cases h
      refine ⟨v, ?_, r⟩
      have e : x = y := by simpa using q
      subst e
      simp [valV]
    | false =>
      rw [q] at h
      obtain ⟨w, h1, h2⟩ := RKs.val rs h
      refine ⟨w, ?_, h2⟩
      have ne : ¬ x = y := by simpa using q
      rw [← h1]
      exact valV_neg fun z => ne (Sum.inr.inj z).symm
end
end Lt
end
section
set_option Elab.async false
set_option linter.all false
set_option maxRecDepth 100000
/-! Lt: soundness of expressions: items, slices, built-ins, lists on the way. -/
namespace Lt
open PySem PySem.Spec PyProof.Rows L2
section
variable {X : Cx} {q : Wq} {W : WX} {α β γ δ : Type}
/-! ### x[i] -/
theorem ix_sub {x y z : E} {G : Hq} {m : Mp} {H : Hp} {x' y' : V} {Q : VK} (hu : X.A.units + 1 < cLine) (M : MtG (dW X q) m H G) (rx : RV X.K m H x x') (ry : RV X.K m H y y') (h : subE G x y = some z) (k : ∀ z', RV X.K m H z z' → Q z' H) :
    wIx X x' y' H Q := by
  cases rx with
  | tup t rs =>
    cases ry with
    | int i =>
      obtain ⟨w, h1, h2⟩ := rs.atI (show atI _ i = some z from h)
      exact ⟨_, ix_tup, _, _, i, w, rfl, rfl, t.sq, h1, k w h2⟩
    | _ => cases h
  | str a =>
    cases ry with
    | int i =>
      simp only [subE] at h
      split at h
      · rename_i hl
        cases e : atI a.cps.toList i with
        | none => rw [e] at h; cases h
        | some c =>
          rw [e] at h
          cases h
          exact ⟨_, ix_str, a, i, c, rfl, rfl, hl, e, k _ (.str _)⟩
      · cases h
    | _ => cases h
  | @ref n a hn =>
    cases ry with
    | int i =>
      simp only [subE] at h
      cases e : G[n]? with
      | none => rw [e] at h; cases h
      | some o =>
        rw [e] at h
        have ob := M.obj n o a e hn
        cases o with
        | lst xs =>
          obtain ⟨vs, h1, r⟩ := ob
          obtain ⟨w, h2, h3⟩ := r.atI (show atI xs i = some z from h)
          exact ⟨_, ix_list, _, _, i, w, rfl, rfl, .inl (.inl h1), h2, k w h3⟩
        | rol xs =>
          obtain ⟨vs, h1, r⟩ := ob
          obtain ⟨w, h2, h3⟩ := r.atI (show atI xs i = some z from h)
          exact ⟨_, ix_list, _, _, i, w, rfl, rfl, .inl h1, h2, k w h3⟩
        | dct kvs => cases h
    | str x =>
      simp only [subE] at h
      cases e : G[n]? with
      | none => rw [e] at h; cases h
      | some o =>
        rw [e] at h
        have ob := M.obj n o a e hn
        cases o with
        | dct kvs =>
          obtain ⟨vs, h1, r⟩ := ob
          obtain ⟨w, h2, h3⟩ := r.val (show kvs.lookup x = some z from h)
          exact ⟨_, ix_dict hu, a, w, rfl, .inl ⟨_, .inr x, .inl h1, rfl, h2.symm⟩, k w h3⟩
        | _ => cases h
    | _ => cases h
  | _ => cases h
theorem s_sub {sa sb : Sx E} {a b : Expr} {p : Pos} (hu : X.A.units + 100 < cLine) (hp : PlainIx b) (ha : SE X q W sa a) (hb : SE X q W sb b) : SE X q W (sSub sa sb) (.Subscript a b p) := by
  intro ρ G σ H m Q ME M F
  refine ⟨_, pe_ix ix_w pe_w pe_w hp, ?_⟩
  refine s_two (f := fun x y G2 => optR (subE G2 x y) G2) (op := wIx X) RV.extm ha hb (fun x y G σ m H x' y' Q M rx ry F => ?_) ρ G σ H m Q ME M F
  obtain ⟨z, hz, F⟩ := optR_fin F
  exact ix_sub (by omega) M rx ry hz fun z' r => F.here M r
/-! ### x[a:b] -/
def wSl (X : Cx) : V → Option Int → Option Int → Hp → VK → Prop := fun x l h H Q => ∃ r, SlR X r ∧ r x l h H Q
theorem sl_w : SlR X (wSl X) := fun pins s σ H x v vl vu lo hi sl Q I rx hs pl pu ⟨r, h, q⟩ => h pins s σ H x v vl vu lo hi sl Q I rx hs pl pu q
theorem RVs.cut {K : PySem.W.Frag} {m : Mp} {H : Hp} {x : List E} {v : List V} {lo hi : Option Int} (r : RVs K m H x v) : RVs K m H ((x.drop (HT.sIx x.length 0 lo)).take (HT.sIx x.length x.length hi - HT.sIx x.length 0 lo)) (cutV v lo hi) := by
  unfold cutV
  rw [r.length]
  exact RVs.take _ (RVs.drop _ r)
theorem cut_all {α : Type} {xs : List α} {lo hi : Option Int} (h : HT.sIx xs.length 0 lo = 0 ∧ HT.sIx xs.length xs.length hi = xs.length) : (xs.drop (HT.sIx xs.length 0 lo)).take (HT.sIx xs.length xs.length hi - HT.sIx xs.length 0 lo) = xs := by
  rw [h.1, h.2]
  simp
theorem sl_cut {x z : E} {lo hi : Option Int} {m : Mp} {H : Hp} {x' : V} {Q : VK} {G : Hq} {σ : L2.St} (M : MtG (dW X q) m H G) (rx : RV X.K m H x x') (h : cutE lo hi x = some z) (F : Fin (dW X q) W σ m H (.ok z G) (RV X.K) Q) :
    wSl X x' lo hi H Q := by
  cases rx with
  | tup t rs =>
    cases h
    refine ⟨_, sl_tupA, _, _, rfl, t.sq, fun hw => ?_, fun hw p hp => ?_⟩
    · rw [← rs.length] at hw
      refine F.here M ?_
      rw [cut_all hw]
      exact .tup t rs
    · exact F.to (Ext.junk hp) (M.junk hp) (.tup (.inl upd_same) ((RVs.cut rs).ext (Ext.junk hp)))
  | str a =>
    simp only [cutE] at h
    split at h
    · rename_i hl
      cases h
      exact ⟨_, sl_str, a, rfl, hl, F.here M (.str _)⟩
    · cases h
  | _ => cases h
theorem so_none : SO X q W sOnone none := fun ρ G σ H m Q ME M F => ⟨_, po_none, Fin.here F M rfl⟩
theorem so_some {s : Sx E} {e : Expr} (ha : SE X q W s e) : SO X q W (sOsome s) (some e) := by
  intro ρ G σ H m Q ME M F
  refine ⟨_, po_some pe_w, ?_⟩
  refine ha ρ G σ H m _ ME M (F.bind fun x G1 m1 x' H1 _ e1 M1 r1 F1 => ?_)
  cases r1 with
  | int i => exact ⟨i, rfl, Fin.here F1 M1 rfl⟩
  | _ => exact F1.elim
theorem s_slice {sa : Sx E} {sl sh : Sx (Option Int)} {a : Expr} {lo hi : Option Expr} {p1 p : Pos} (ha : SE X q W sa a) (hl : SO X q W sl lo) (hh : SO X q W sh hi) : SE X q W (sSlice sa sl sh) (.Subscript a (.Slice lo hi none p1) p) := by
  intro ρ G σ H m Q ME M F
  refine ⟨_, pe_slice sl_w pe_w po_w po_w, ?_⟩
  refine ha ρ G σ H m _ ME M (F.bind fun x G1 m1 x' H1 _ e1 M1 r1 F1 => ?_)
  refine hl ρ G1 σ H1 m1 _ (ME.ext e1) M1 (F1.bind fun l G2 m2 l' H2 _ e2 M2 r2 F2 => ?_)
  refine hh ρ G2 σ H2 m2 _ ((ME.ext e1).ext e2) M2 (F2.bind fun u G3 m3 u' H3 _ e3 M3 r3 F3 => ?_)
  cases r2
  cases r3
  obtain ⟨z, hz, F3⟩ := optR_fin F3
  exact sl_cut M3 ((r1.ext e2).ext e3) hz F3
/-! ### names of the module -/
theorem s_glb {x : Str} {v : E} {v' : V} {u : Value} {p : Pos} (hg : Gl X x) (hm : X.mg x = some u) (r : RelV v' u) (hd : (x == ("__debug__" : Str)) = false) (rv : ∀ m H, RV X.K m H v v') : SE X q W (sC v) (.Name x p) :=
  s_c (fun σ H Q h => ⟨_, pe_glob hg hm r hd, h⟩) rv
/-! ### lists on the way -/
def RL (K : PySem.W.Frag) : Mp → Hp → LH → V → Prop := fun m H l v => match l with
  | .tmp es => ∃ a vs, v = .ref a ∧ H a = some (.lst vs) ∧ RVs K m H es vs ∧ ∀ n, m n ≠ some a
  | .pl n => ∃ a, v = .ref a ∧ m n = some a
theorem RL.ext {K : PySem.W.Frag} {m m' : Mp} {H H' : Hp} {l : LH} {v : V} (r : RL K m H l v) (e : Ext m H m' H') : RL K m' H' l v := by
  cases l with
  | tmp es =>
    obtain ⟨a, vs, rfl, h, r, hn⟩ := r
    refine ⟨a, vs, rfl, e.stay a _ h (fun ps z => nomatch z) hn, r.ext e, fun n z => ?_⟩
    rcases e.new n a z with z | z
    · exact hn n z
    · exact z.no h fun ps z => nomatch z
  | pl n =>
    obtain ⟨a, rfl, h⟩ := r
    exact ⟨a, rfl, e.mono n a h⟩
theorem RL.extm {K : PySem.W.Frag} : ∀ m H m' H' x x', Ext m H m' H' → RL K m H x x' → RL K m' H' x x' := fun _ _ _ _ _ _ e r => RL.ext r e
theorem RL.get {m : Mp} {H : Hp} {G : Hq} {l : LH} {v : V} {es : List E} (r : RL X.K m H l v) (M : MtG (dW X q) m H G) (h : l.get G = some es) : ∃ a vs, v = .ref a ∧ SqL X.K H a vs ∧ RVs X.K m H es vs := by
  cases l with
  | tmp es =>
    cases h
    obtain ⟨a, vs, rfl, h, r, _⟩ := r
    exact ⟨a, vs, rfl, .inl (.inl h), r⟩
  | pl n =>
    obtain ⟨a, rfl, hn⟩ := r
    simp only [LH.get] at h
    cases e : G[n]? with
    | none => rw [e] at h; cases h
    | some o =>
      rw [e] at h
      have ob := M.obj n o a e hn
      cases o with
      | lst xs => cases h; obtain ⟨vs, h1, r⟩ := ob; exact ⟨a, vs, rfl, .inl (.inl h1), r⟩
      | rol xs => cases h; obtain ⟨vs, h1, r⟩ := ob; exact ⟨a, vs, rfl, .inl h1, r⟩
      | dct kvs => cases h
theorem RL.getM {m : Mp} {H : Hp} {G : Hq} {l : LH} {v : V} {es : List E} (r : RL X.K m H l v) (M : MtG (dW X q) m H G) (h : l.getM G = some es) : ∃ a vs, v = .ref a ∧ H a = some (.lst vs) ∧ RVs X.K m H es vs := by
  cases l with
  | tmp es =>
    cases h
    obtain ⟨a, vs, rfl, h, r, _⟩ := r
    exact ⟨a, vs, rfl, h, r⟩
  | pl n =>
    obtain ⟨a, rfl, hn⟩ := r
    simp only [LH.getM] at h
    cases e : G[n]? with
    | none => rw [e] at h; cases h
    | some o =>
      rw [e] at h
      have ob := M.obj n o a e hn
      cases o with
      | lst xs => cases h; obtain ⟨vs, h1, r⟩ := ob; exact ⟨a, vs, rfl, h1, r⟩
      | _ => cases h
/-- .. new since H0, if it was made on the way -/
def RLn (K : PySem.W.Frag) (H0 : Hp) : Mp → Hp → LH → V → Prop := fun m H l v => RL K m H l v ∧ ∀ es, l = .tmp es → ∃ a, v = .ref a ∧ NT H0 a
def SL (X : Cx) (q : Wq) (W : WX) (s : Sx LH) (e : Expr) : Prop :=
  ∀ (ρ : Ro) (G : Hq) (σ : L2.St) (H : Hp) (m : Mp) (Q : V → Hp → Prop), MtE X.K m H ρ σ → MtG (dW X q) m H G → Fin (dW X q) W σ m H (s ρ G) (RLn X.K H) Q → wE X e σ H Q
/-- a new list -/
theorem fin_tmp {σ : L2.St} {m : Mp} {H H0 : Hp} {G : Hq} {xs : List E} {vs : List V} {p : Addr} {Q : VK} (M : MtG (dW X q) m H G) (F : Fin (dW X q) W σ m H (.ok (.tmp xs) G) (RLn X.K H0) Q) (r : RVs X.K m H xs vs) (hp : H p = none) (h0 : NT H p → NT H0 p) : Q (.ref p) (upd H p (.lst vs)) :=
  F.to (Ext.junk hp) (M.junk hp) ⟨⟨p, vs, rfl, upd_same, r.ext (Ext.junk hp), M.ne_none hp⟩, fun _ _ => ⟨p, rfl, h0 (.inl hp)⟩⟩
theorem l_ofE {s : Sx E} {e : Expr} (ha : SE X q W s e) : SL X q W (sOfE s) e := by
  intro ρ G σ H m Q ME M F
  refine wE.mono (fun v H' h => h) (ha ρ G σ H m _ ME M (F.bind fun x G1 m1 x' H1 _ e1 M1 r1 F1 => ?_))
  cases r1 with
  | ref hn =>
    simp only at F1
    split at F1
    · exact Fin.here F1 M1 ⟨⟨_, rfl, hn⟩, fun es z => nomatch z⟩
    · exact F1.elim
  | _ => exact F1.elim
theorem l_disp {s : Sx (List E)} {es : List Expr} {p : Pos} (ha : SA X q W s es) : SL X q W (sDisp s) (.List es p) := by
  intro ρ G σ H m Q ME M F
  refine ⟨_, pe_lst pa_w, ?_⟩
  refine ha ρ G σ H m _ ME M (F.bind fun xs G1 m1 xs' H1 _ e1 M1 r1 F1 => ?_)
  split at F1
  · rename_i hl
    exact ⟨by rw [← r1.length]; exact hl, fun p hp => fin_tmp M1 F1 r1 hp (e1.there _)⟩
  · exact F1.elim
theorem l_cat {sa sb : Sx LH} {a b : Expr} {p : Pos} (ha : SL X q W sa a) (hb : SL X q W sb b) : SL X q W (sCat sa sb) (.BinOp a .Add b p) := by
  intro ρ G σ H m Q ME M F
  refine ⟨_, pe_op (op := .Add) op_cat pe_w pe_w, ?_⟩
  refine ha ρ G σ H m _ ME M (F.bind fun x G1 m1 x' H1 _ e1 M1 r1 F1 => ?_)
  refine hb ρ G1 σ H1 m1 _ (ME.ext e1) M1 (F1.bind fun y G2 m2 y' H2 _ e2 M2 r2 F2 => ?_)
  cases qx : x.getM G2 with
  | none => rw [qx] at F2; exact F2.elim
  | some xs =>
    cases qy : y.getM G2 with
    | none => rw [qx, qy] at F2; exact F2.elim
    | some ys =>
      rw [qx, qy] at F2
      simp only [optR_some, R.bind_ok] at F2
      split at F2
      · rename_i hl
        obtain ⟨a, vs, rfl, h1, s1⟩ := RL.getM (RL.ext r1.1 e2) M2 qx
        obtain ⟨b, ws, rfl, h2, s2⟩ := RL.getM r2.1 M2 qy
        exact ⟨a, b, vs, ws, rfl, rfl, h1, h2, by rw [← s1.length, ← s2.length]; exact hl, fun p hp => fin_tmp M2 F2 (s1.append s2) hp fun h => e1.there _ (e2.there _ h)⟩
      · exact F2.elim
/-! ### built-ins -/
def bltv : List (Str × Value) := [("len", .builtin "len"), ("abs", .builtin "abs"), ("int", .type "int"), ("tuple", .type "tuple"), ("all", .builtin "all"), ("isinstance", .builtin "isinstance"), ("range", .type "range")]
def wC (X : Cx) (f : Value) : List V → Hp → VK → Prop := fun vs H Q => ∃ r, CallR X f r ∧ r vs H Q
theorem call_w {f : Value} : CallR X f (wC X f) := fun pins s σ H xs us Q I rx ⟨r, h, q⟩ => h pins s σ H xs us Q I rx q
theorem lenV_of {x : E} {G : Hq} {m : Mp} {H : Hp} {x' : V} {n : Nat} (M : MtG (dW X q) m H G) (r : RV X.K m H x x') (h : lenE G x = some n) : LenV X.K x' H n := by
  cases r with
  | tup t rs => cases h; exact .inr ⟨_, t.sq, rs.length⟩
  | str z =>
    simp only [lenE] at h
    split at h
    · rename_i hl; cases h; exact ⟨hl, rfl⟩
    · cases h
  | @ref k a hn =>
    simp only [lenE, Option.map_eq_some_iff] at h
    obtain ⟨xs, h, rfl⟩ := h
    obtain ⟨b, vs, e, sq, rs⟩ := RL.get (X := X) (q := q) (l := .pl k) ⟨a, rfl, hn⟩ M h
    cases e
    exact .inl ⟨vs, sq, rs.length⟩
  | _ => cases h
def B1.val : B1 → Value
  | .len => .builtin "len" | .abs => .builtin "abs" | .int => .type "int"
theorem c_bi1 {b : B1} {x y : E} {G : Hq} {m : Mp} {H : Hp} {x' : V} {Q : VK} (M : MtG (dW X q) m H G) (r : RV X.K m H x x') (h : bi1E G b x = some y) (k : ∀ y', RV X.K m H y y' → Q y' H) : wC X b.val [x'] H Q := by
  cases b with
  | len =>
    simp only [bi1E, Option.map_eq_some_iff] at h
    obtain ⟨n, h, rfl⟩ := h
    exact ⟨_, call_len, x', n, rfl, lenV_of M r h, k _ (.int _)⟩
  | abs =>
    cases r with
    | int i => cases h; exact ⟨_, call_abs, i, rfl, k _ (.int _)⟩
    | _ => cases h
  | int =>
    cases r with
    | int i => cases h; exact ⟨_, call_int1, .inl ⟨i, rfl, k _ (.int _)⟩⟩
    | bl b => cases h; exact ⟨_, call_int1, .inr ⟨b, rfl, k _ (.int _)⟩⟩
    | _ => cases h
theorem s_bi1 {b : B1} {s : Sx E} {a : Expr} {p1 p : Pos} (hg : Gl X b.name) (hm : X.mg b.name = none) (hs : starEach [a] X.env = [(false, eval a X.env)]) (ha : SE X q W s a) : SE X q W (sBi1 b s) (.Call (.Name b.name p1) [a] [] p) := by
  intro ρ G σ H m Q ME M F
  have key : ∀ t, PE X (.Call (.Name b.name p1) [a] [] p) t → (∀ σ H Q, wA X [a] σ H (fun vs H1 => wC X b.val vs H1 Q) → t σ H Q) → wE X (.Call (.Name b.name p1) [a] [] p) σ H Q := by
    intro t ht hk
    refine ⟨t, ht, hk _ _ _ ⟨_, pa_cons pe_w pa_nil hs, ?_⟩⟩
    refine ha ρ G σ H m _ ME M (F.bind fun x G1 m1 x' H1 _ e1 M1 r1 F1 => ?_)
    obtain ⟨y, hy, F1⟩ := optR_fin F1
    exact c_bi1 M1 r1 hy fun y' r => Fin.here F1 M1 r
  cases b with
  | len => exact key _ (pe_callB (id := "len") call_w hg hm rfl pa_w (he := hs)) fun _ _ _ h => h
  | abs => exact key _ (pe_callB (id := "abs") call_w hg hm rfl pa_w (he := hs)) fun _ _ _ h => h
  | int => exact key _ (pe_callTy (T := "int") call_w hg hm rfl pa_w (he := hs)) fun _ _ _ h => h
end
end Lt
end
section
set_option Elab.async false
set_option linter.all false
set_option maxRecDepth 100000
/-! Lt: soundness of expressions: built-ins of lists and texts. -/
namespace Lt
open PySem PySem.Spec PyProof.Rows L2
section
variable {X : Cx} {q : Wq} {W : WX} {α β γ δ : Type}
theorem RVs.bls {K : PySem.W.Frag} {m : Mp} {H : Hp} : ∀ {xs : List E} {vs : List V} {bs : List Bool}, RVs K m H xs vs → asBs xs = some bs → vs = bs.map V.bl
  | [], _, _, .nil, h => by cases h; rfl
  | x :: r, _, bs, .cons a t, h => by
    unfold asBs at h
    cases q1 : asB x with
    | none => rw [q1] at h; cases h
    | some b =>
      rw [q1] at h
      cases q2 : asBs r with
      | none => rw [q2] at h; cases h
      | some ys =>
        rw [q2] at h
        cases h
        rw [RVs.bls t q2, a.asB q1]
        rfl
theorem RVs.sts {K : PySem.W.Frag} {m : Mp} {H : Hp} : ∀ {xs : List E} {vs : List V} {ys : List Str}, RVs K m H xs vs → asSs xs = some ys → vs = ys.map V.str
  | [], _, _, .nil, h => by cases h; rfl
  | x :: r, _, ys, .cons a t, h => by
    cases a with
    | str z =>
      simp only [asSs, Option.map_eq_some_iff] at h
      obtain ⟨zs, h, rfl⟩ := h
      rw [RVs.sts t h]
      rfl
    | _ => simp [asSs] at h
theorem s_biL {b : BL} {s : Sx LH} {a : Expr} {p1 p : Pos} (C : CxG X W) (hg : Gl X b.name) (hm : X.mg b.name = none) (hs : starEach [a] X.env = [(false, eval a X.env)]) (ha : SL X q W s a) : SE X q W (sBiL b s) (.Call (.Name b.name p1) [a] [] p) := by
  intro ρ G σ H m Q ME M F
  cases b with
  | tup =>
    refine ⟨_, pe_callTy (T := "tuple") call_tuple_of hg hm rfl (pa_cons pe_w pa_nil hs) (he := hs), ?_⟩
    refine ha ρ G σ H m _ ME M (F.bind fun x G1 m1 x' H1 _ e1 M1 r1 F1 => ?_)
    cases qx : x.get G1 with
    | none => rw [qx] at F1; exact F1.elim
    | some xs =>
      rw [qx] at F1
      obtain ⟨a, vs, rfl, sq, rs⟩ := RL.get r1.1 M1 qx
      exact ⟨a, vs, rfl, .inl ⟨sq, fun l hl => F1.to (Ext.junk hl) (M1.junk hl) (.tup (.inl upd_same) (rs.ext (Ext.junk hl)))⟩⟩
  | all =>
    refine ⟨_, pe_callB (id := "all") (cr_all C.calm) hg hm rfl (pa_cons pe_w pa_nil hs) (he := hs), ?_⟩
    refine ha ρ G σ H m _ ME M (F.bind fun x G1 m1 x' H1 _ e1 M1 r1 F1 => ?_)
    cases qx : x.get G1 with
    | none => rw [qx] at F1; exact F1.elim
    | some xs =>
      rw [qx] at F1
      obtain ⟨a, vs, rfl, sq, rs⟩ := RL.get r1.1 M1 qx
      simp only [optR_some, R.bind_ok, biLE] at F1
      cases qb : asBs xs with
      | none => rw [qb] at F1; exact F1.elim
      | some bs =>
        rw [qb] at F1
        have e := RVs.bls rs qb
        subst e
        exact ⟨a, bs, rfl, sq, F1.here M1 (.bl _)⟩
def TyN.val : TyN → V
  | .str => .ty "str" | .tup => .ty "tuple"
def TyN.ty : TyN → String
  | .str => "str" | .tup => "tuple"
theorem isi_ty {t : TyN} {x : E} {b : Bool} {m : Mp} {H : Hp} {x' : V} (r : RV X.K m H x x') (h : isiE t x = some b) : ∃ u, TyX X.K H x' u ∧ PySem.W.kitOne X.K u (.type t.ty) = some b := by
  have tup : ∀ {a vs}, TupAt X.K H a vs → TyX X.K H (.ref a) (.type "tuple") := fun h => by
    rcases h with h | ⟨o, its, n, h1, h2, _⟩
    · exact .base (.tup h)
    · exact .kTuple h1 h2
  cases r with
  | non => cases t <;> cases h <;> exact ⟨_, .base .non, kit_ty (by decide +kernel)⟩
  | bl y => cases t <;> cases h <;> exact ⟨_, .base (.bl y), kit_ty (by decide +kernel)⟩
  | int i => cases t <;> cases h <;> exact ⟨_, .base (.int i), kit_ty (by decide +kernel)⟩
  | str z => cases t <;> cases h <;> exact ⟨_, .base (.str z), kit_ty (by decide +kernel)⟩
  | tup ta rs => cases t <;> cases h <;> exact ⟨_, tup ta, kit_ty (by decide +kernel)⟩
  | ref hn => cases t <;> cases h
theorem s_isi {t : TyN} {s : Sx E} {a : Expr} {p1 p2 p : Pos} (hg : Gl X "isinstance") (hm : X.mg "isinstance" = none) (hgt : Gl X t.name) (hmt : X.mg t.name = none)
    (hs : starEach [a, .Name t.name p2] X.env = (false, eval a X.env) :: starEach [.Name t.name p2] X.env) (ha : SE X q W s a) : SE X q W (sIsi t s) (.Call (.Name "isinstance" p1) [a, .Name t.name p2] [] p) := by
  intro ρ G σ H m Q ME M F
  have hn : PE X (.Name t.name p2) (tC t.val) := by
    cases t with
    | str => exact pe_bltn hgt hmt rfl rfl (by decide) (by decide)
    | tup => exact pe_bltn hgt hmt rfl rfl (by decide) (by decide)
  have hs2 : starEach [.Name t.name p2] X.env = [(false, eval (.Name t.name p2) X.env)] := by rfl
  refine ⟨_, pe_callB (id := "isinstance") call_isi hg hm rfl (pa_cons pe_w (pa_cons hn pa_nil hs2) hs) (he := hs) (hpl := by rw [hs2]; rfl), ?_⟩
  refine ha ρ G σ H m _ ME M (F.bind fun x G1 m1 x' H1 _ e1 M1 r1 F1 => ?_)
  cases qb : isiE t x with
  | none => rw [qb] at F1; exact F1.elim
  | some b =>
    rw [qb] at F1
    obtain ⟨u, ty, k⟩ := isi_ty r1 qb
    refine ⟨x', t.val, u, .type t.ty, b, rfl, ?_, ty, k, F1.here M1 (.bl b)⟩
    cases t <;> exact .ty _
theorem in_s {x y : E} {b : Bool} {m : Mp} {H : Hp} {x' y' : V} {Q : VK} (rx : RV X.K m H x x') (ry : RV X.K m H y y') (h : inSE x y = some b) (k : Q (.bl b) H) : wOp X (compareOp .In) x' y' H Q := by
  cases rx with
  | str a =>
    cases ry with
    | str z =>
      simp only [inSE] at h
      split at h
      · rename_i c hc
        cases h
        refine ⟨_, op_in_sign, c, z, ?_, rfl, k⟩
        obtain ⟨⟨l⟩⟩ := a
        simp only at hc
        subst hc
        rfl
      · cases h
    | _ => cases h
  | _ => cases h
theorem st_inS {sa sb : Sx E} {a b : Expr} {p : Pos} (hb0 : behindInMarks .In b = false) (ha : SE X q W sa a) (hb : SE X q W sb b) : ST X q W (sInS sa sb) (.Compare a [.In] [b] p) := by
  intro ρ G σ H m Q ME M F
  refine ⟨_, pt_cmpR op_w pe_w pe_w hb0, ?_⟩
  refine s_two (f := fun x y G2 => optR (inSE x y) G2) (op := fun x y H Q => wOp X (compareOp .In) x y H fun x H' => ∃ k, x = .bl k ∧ Q k H') RV.extm ha hb (fun x y G σ m H x' y' Q M rx ry F => ?_) ρ G σ H m Q ME M F
  obtain ⟨b, hb, F⟩ := optR_fin F
  exact in_s rx ry hb ⟨b, rfl, F.here M rfl⟩
theorem R.bind_assoc {a b c : Type} (r : R a) (f : a → Hq → R b) (g : b → Hq → R c) : (r.bind f).bind g = r.bind fun x G => (f x G).bind g := by cases r <;> rfl
theorem s_inS {sa sb : Sx E} {a b : Expr} {p : Pos} (hb0 : behindInMarks .In b = false) (ha : SE X q W sa a) (hb : SE X q W sb b) : SE X q W (sBl (sInS sa sb)) (.Compare a [.In] [b] p) := by
  intro ρ G σ H m Q ME M F
  refine ⟨_, pe_cmpR op_w pe_w pe_w hb0, ?_⟩
  unfold sBl sInS at F
  rw [R.bind_assoc] at F
  refine ha ρ G σ H m _ ME M (F.bind fun x G1 m1 x' H1 _ e1 M1 r1 F1 => ?_)
  rw [R.bind_assoc] at F1
  refine hb ρ G1 σ H1 m1 _ (ME.ext e1) M1 (F1.bind fun y G2 m2 y' H2 _ e2 M2 r2 F2 => ?_)
  cases hz : inSE x y with
  | none => rw [hz] at F2; exact F2.elim
  | some b =>
    rw [hz] at F2
    exact in_s (r1.ext e2) r2 hz (Fin.here F2 M2 (.bl b))
theorem RV.tyS {x : E} {v : V} {z : Str} {m : Mp} {H : Hp} (r : RV X.K m H x v) (h : x = .str z) : v = .str z := by
  subst h; cases r; rfl
theorem s_sidx {sa sb : Sx E} {a b : Expr} {p1 p : Pos} (C : CxG X W) (hbase : attributeBase a "index" X.env (eval a X.env) = eval a X.env) (hs : starEach [b] X.env = [(false, eval b X.env)])
    (hfew : ((backTo p (starEach [b] X.env)).all (fun x => !x.1) && (backToKw p (keywordEach [] X.env)).all (fun x => x.1.isSome)
      && decide ([b].length + ([] : List Keyword).length + (if ([] : List Keyword).isEmpty then 0 else 1) < 30)) = true)
    (hl : (p1.endLine == p.line) = true) (ha : SE X q W sa a) (hb : SE X q W sb b) : SE X q W (sSidx sa sb) (.Call (.Attribute a "index" p1) [b] [] p) := by
  intro ρ G σ H m Q ME M F
  refine ⟨_, pe_bmS PySem.F.plainAttrs_str PySem.F.slot_str_index PySem.F.type_str_index (mt_indexX C.calm C.tk) pe_w (pa_cons pe_w pa_nil hs) hbase hfew hl hs (by rfl), ?_⟩
  refine ha ρ G σ H m _ ME M (F.bind fun x G1 m1 x' H1 _ e1 M1 r1 F1 => ?_)
  cases r1 with
  | str z =>
    refine ⟨rfl, ?_⟩
    refine hb ρ G1 σ H1 m1 _ (ME.ext e1) M1 (F1.bind fun y G2 m2 y' H2 _ e2 M2 r2 F2 => ?_)
    obtain ⟨w, hw, F2⟩ := optR_fin F2
    cases r2 with
    | str y =>
      simp only [sidxE, Option.map_eq_some_iff] at hw
      obtain ⟨k, hk, rfl⟩ := hw
      refine ⟨z, y, rfl, rfl, fun j hj => ?_, fun hn => ?_⟩
      · rw [hk] at hj; cases hj; exact Fin.here F2 M2 (.int _)
      · rw [hk] at hn; cases hn
    | _ => cases hw
  | _ => exact F1.elim
theorem s_join {sa : Sx E} {sl : Sx LH} {a l : Expr} {p1 p : Pos} (hbase : attributeBase a "join" X.env (eval a X.env) = eval a X.env) (hs : starEach [l] X.env = [(false, eval l X.env)]) (hl : (p1.endLine == p.line) = true)
    (ha : SE X q W sa a) (hb : SL X q W sl l) : SE X q W (sJoin sa sl) (.Call (.Attribute a "join" p1) [l] [] p) := by
  intro ρ G σ H m Q ME M F
  refine ⟨_, pe_join pe_w pe_w hs hbase hl, ?_⟩
  refine ha ρ G σ H m _ ME M (F.bind fun x G1 m1 x' H1 _ e1 M1 r1 F1 => ?_)
  cases r1 with
  | str z =>
    refine ⟨⟨z, rfl⟩, ?_⟩
    refine hb ρ G1 σ H1 m1 _ (ME.ext e1) M1 (F1.bind fun y G2 m2 y' H2 _ e2 M2 r2 F2 => ?_)
    cases qx : y.get G2 with
    | none => rw [qx] at F2; exact F2.elim
    | some xs =>
      rw [qx] at F2
      obtain ⟨a, vs, rfl, sq, rs⟩ := RL.get r2.1 M2 qx
      simp only [optR_some, R.bind_ok, joinE] at F2
      cases qs : asSs xs with
      | none => rw [qs] at F2; exact F2.elim
      | some ys =>
        rw [qs] at F2
        simp only at F2
        obtain ⟨w, hw, F2⟩ := optR_fin F2
        split at hw
        · rename_i hl
          cases hw
          have e := RVs.sts rs qs
          subst e
          exact ⟨z, a, ys, rfl, rfl, .inl sq, hl, Fin.here F2 M2 (.str _)⟩
        · cases hw
  | _ => exact F1.elim
theorem s_subL {sl : Sx LH} {si : Sx E} {l i : Expr} {p : Pos} (hp : PlainIx i) (ha : SL X q W sl l) (hb : SE X q W si i) : SE X q W (sSubL sl si) (.Subscript l i p) := by
  intro ρ G σ H m Q ME M F
  refine ⟨_, pe_ix ix_list pe_w pe_w hp, ?_⟩
  refine ha ρ G σ H m _ ME M (F.bind fun x G1 m1 x' H1 _ e1 M1 r1 F1 => ?_)
  refine hb ρ G1 σ H1 m1 _ (ME.ext e1) M1 (F1.bind fun y G2 m2 y' H2 _ e2 M2 r2 F2 => ?_)
  cases qx : x.get G2 with
  | none => rw [qx] at F2; exact F2.elim
  | some xs =>
    rw [qx] at F2
    obtain ⟨a, vs, rfl, sq, rs⟩ := RL.get (RL.ext r1.1 e2) M2 qx
    cases r2 with
    | int i =>
      obtain ⟨z, hz, F2⟩ := optR_fin F2
      obtain ⟨w, h1, h2⟩ := rs.atI hz
      exact ⟨a, vs, i, w, rfl, rfl, sq, h1, Fin.here F2 M2 h2⟩
    | _ => exact F2.elim
theorem s_new {sl : Sx LH} {l : Expr} (ha : SL X q W sl l) : SE X q W (sNew sl) l := by
  intro ρ G σ H m Q ME M F
  refine ha ρ G σ H m _ ME M ?_
  unfold sNew at F
  cases qs : sl ρ G with
  | bad => rw [qs] at F; exact F
  | ex c G1 => rw [qs] at F; exact F
  | ok x G1 =>
    rw [qs] at F
    intro m1 x' H1 e1 M1 r1
    cases x with
    | pl n => exact F.elim
    | tmp xs =>
      obtain ⟨⟨a, vs, rfl, h, rs, hn⟩, h0⟩ := r1
      obtain ⟨b, e, h0⟩ := h0 _ rfl
      cases e
      refine F (Mp.add m1 G1.length a) (.ref a) H1 ?_ (M1.add hn ?_) (.ref Mp.add_self)
      · refine ⟨fun n b h => Mp.add_mono M1 n b (e1.mono n b h), e1.stay, e1.tups, fun n b h => ?_, e1.there⟩
        unfold Mp.add at h
        split at h
        · cases h; exact .inr h0
        · exact e1.new n b h
      · exact ⟨vs, h, rs.tr (Mp.add_mono M1) fun _ _ z => z⟩
end
end Lt
end
section
set_option Elab.async false
set_option linter.all false
set_option maxRecDepth 100000
/-! Lt: soundness of expressions: calls, dicts, lambdas that are tried. -/
namespace Lt
open PySem PySem.Spec PyProof.Rows L2
section
variable {X : Cx} {q : Wq} {W : WX} {P : Par} {α β γ δ : Type}
/-! ### calls -/
/-- what a def promises -/
def spF (K : PySem.W.Frag) (q : Wq) (P : Par) (f n : Nat) : Sp := fun vs H Q E => vs.length = n ∧ ∃ m es G, RVs K m H es vs ∧ MtG ⟨K, q.T, q.xc⟩ m H G ∧
  Fin ⟨K, q.T, q.xc⟩ (fun cls d _ H' => E cls d H') [] m H (P.cl f es G) (RV K) Q
theorem Fin.st {D : Wd} {σ σ' : L2.St} {m : Mp} {H : Hp} {r : R α} {rel : Mp → Hp → α → β → Prop} {Q : β → Hp → Prop} {W W' : WX} (h : Fin D W σ m H r rel Q) (hW : ∀ c d H', W c d σ H' → W' c d σ' H') : Fin D W' σ' m H r rel Q := by
  cases r with
  | ok v G => exact h
  | ex c G => exact fun m2 H2 d e2 M => hW _ _ _ (h m2 H2 d e2 M)
  | bad => exact h
theorem s_call {f n k : Nat} {a : Addr} {fd : FuncData} {ps : List Str} {x : Str} {s : Sx (List E)} {e : Expr} {es : List Expr} {p1 p : Pos} (C : CxG X W) (hr : Room k X.A) (Fo : FnOk X.prog X.w X.K X.mg X.base (CX X.prog X.w) k a fd ps (spF X.K q P f n))
    (hg : Gl X x) (hm : X.mg x = some (.ref a)) (hk : PySem.W.keepIn X.K (.ref a) = true) (hb : Binds X.K fd ps []) (hn : ps.length = n) (hd : (x == ("__debug__" : Str)) = false)
    (he : starEach (e :: es) X.env = (false, eval e X.env) :: starEach es X.env) (hpl : (backTo p (starEach es X.env)).any (·.1) = false)
    (hl : ∀ ρ G xs G', s ρ G = .ok xs G' → xs.length = n) (ha : SA X q W s (e :: es)) : SE X q W (sCall P f s) (.Call (.Name x p1) (e :: es) [] p) := by
  intro ρ G σ H m Q ME M F
  refine ⟨_, pe_callSD (E := WE W) Fo hr hg hm hk hb .nil (fun σ => passAt C.tk σ) pa_w hd he hpl, ?_⟩
  refine ha ρ G σ H m _ ME M (F.bind fun xs G1 m1 xs' H1 e0 e1 M1 r1 F1 => ?_)
  show spF X.K q P f n (xs' ++ []) H1 Q (WE W σ)
  rw [List.append_nil]
  exact ⟨by rw [← r1.length]; exact hl _ _ _ _ e0, m1, xs, G1, r1, M1, Fin.st F1 fun _ _ _ h => h⟩
/-! ### a dict's display -/
theorem RKs.zip {K : PySem.W.Frag} {m : Mp} {H : Hp} : ∀ {ks : List Str} {xs : List E} {vs : List V}, RVs K m H xs vs → RKs K m H (ks.zip xs) ((ks.map Sum.inr).zip vs)
  | [], _, _, _ => .nil
  | _ :: _, _, _, .nil => .nil
  | k :: ks, _, _, .cons a r => .cons a (RKs.zip r)
theorem mergeK_nodup : ∀ (kvs acc : List (Key × V)), (∀ kv ∈ kvs, valV acc kv.1 = none) → (kvs.map (·.1)).Nodup → mergeK acc kvs = acc ++ kvs
  | [], acc, _, _ => by simp [mergeK]
  | kv :: r, acc, h, nd => by
    have hn := h kv List.mem_cons_self
    have e : putK acc kv.1 kv.2 = acc ++ [kv] := putK_new _ hn
    rw [List.map_cons, List.nodup_cons] at nd
    have := mergeK_nodup r (acc ++ [kv]) (fun x hx => by
      have hne : ¬ x.1 = kv.1 := fun e => nd.1 (by rw [← e]; exact List.mem_map_of_mem hx)
      have z := valV_snoc kv.1 x.1 kv.2 acc hn
      rw [if_neg hne] at z
      exact z.trans (h x (List.mem_cons_of_mem _ hx))) nd.2
    unfold mergeK at this ⊢
    rw [List.foldl_cons, e, this, List.append_assoc]
    rfl
theorem tPairs.mono {σ : L2.St} : ∀ {trs : List (TE × TE)} {H : Hp} {Q Q' : List (V × V) → Hp → Prop}, (∀ t ∈ trs, ∀ σ H (Q Q' : VK), (∀ v H', Q v H' → Q' v H') → t.1 σ H Q → t.1 σ H Q') → (∀ t ∈ trs, ∀ σ H (Q Q' : VK), (∀ v H', Q v H' → Q' v H') → t.2 σ H Q → t.2 σ H Q') →
    (∀ ps H', Q ps H' → Q' ps H') → tPairs trs σ H Q → tPairs trs σ H Q'
  | [], _, _, _, _, _, k, h => k _ _ h
  | t :: r, _, _, _, m1, m2, k, h => m1 t List.mem_cons_self _ _ _ _ (fun _ _ h => m2 t List.mem_cons_self _ _ _ _ (fun _ _ h => tPairs.mono (fun t ht => m1 t (List.mem_cons_of_mem _ ht)) (fun t ht => m2 t (List.mem_cons_of_mem _ ht)) (fun _ _ h => k _ _ h) h) h) h
/-- the pairs of texts and what is evaluated -/
def trsOf (X : Cx) (ks : List Str) (es : List Expr) : List (TE × TE) := (ks.zip es).map fun p => (tC (.str p.1), wE X p.2)
theorem trsOf.mono {ks : List Str} {es : List Expr} {σ : L2.St} {H : Hp} {Q Q' : List (V × V) → Hp → Prop} (k : ∀ ps H', Q ps H' → Q' ps H') (h : tPairs (trsOf X ks es) σ H Q) : tPairs (trsOf X ks es) σ H Q' := by
  refine tPairs.mono (fun t ht => ?_) (fun t ht => ?_) k h
  · obtain ⟨p, _, rfl⟩ := List.mem_map.mp ht
    exact fun σ H Q Q' k h => k _ _ h
  · obtain ⟨p, _, rfl⟩ := List.mem_map.mp ht
    exact fun σ H Q Q' k h => wE.mono k h
def SPs (X : Cx) (q : Wq) (W : WX) (s : Sx (List E)) (es : List Expr) : Prop := ∀ (ks : List Str) (ρ : Ro) (G : Hq) (σ : L2.St) (H : Hp) (m : Mp) (Q : List V → Hp → Prop), MtE X.K m H ρ σ → MtG (dW X q) m H G → ks.length = es.length →
  Fin (dW X q) W σ m H (s ρ G) (RVs X.K) Q → tPairs (trsOf X ks es) σ H fun ps H' => ∃ vs, ps = (ks.zip vs).map (fun p => (.str p.1, p.2)) ∧ vs.length = ks.length ∧ Q vs H'
theorem sp_nil : SPs X q W sNil [] := fun ks ρ G σ H m Q ME M hl F => by
  have : ks = [] := List.eq_nil_of_length_eq_zero hl
  subst this
  exact ⟨[], rfl, rfl, Fin.here F M .nil⟩
theorem sp_cons {s : Sx E} {u : Sx (List E)} {e : Expr} {r : List Expr} (ha : SE X q W s e) (hr : SPs X q W u r) : SPs X q W (sCons s u) (e :: r) := by
  intro ks ρ G σ H m Q ME M hl F
  cases ks with
  | nil => cases hl
  | cons k ks =>
    show wE X e σ H fun y H2 => tPairs (trsOf X ks r) σ H2 _
    refine ha ρ G σ H m _ ME M (F.bind fun x G1 m1 x' H1 _ e1 M1 r1 F1 => ?_)
    have := hr ks ρ G1 σ H1 m1 _ (ME.ext e1) M1 (by simpa using hl) (F1.bind (Q := fun vs H2 => ∃ w, Q (w :: vs) H2 ∧ w = x') fun xs G2 m2 xs' H2 _ e2 M2 r2 F2 => ⟨x', Fin.here F2 M2 (.cons (r1.ext e2) r2), rfl⟩)
    refine trsOf.mono (fun ps H' h => ?_) this
    obtain ⟨vs, rfl, h1, w, h2, rfl⟩ := h
    exact ⟨w :: vs, rfl, by simp [h1], h2⟩
theorem pps_of {pos : Pos} : ∀ {ks : List (Str × Nat × Pos)} {es : List Expr}, ks.length = es.length → PPs X pos (ks.map fun k => some (.Constant (.str k.1) k.2.1 k.2.2)) es (trsOf X (ks.map (·.1)) es)
  | [], [], _ => pps_nil
  | k :: ks, e :: es, h => pps_cons pe_str pe_w (pps_of (by simpa using h))
  | [], _ :: _, h => by cases h
  | _ :: _, [], h => by cases h
theorem RVs.len {K : PySem.W.Frag} {m : Mp} {H : Hp} {x : List E} {v : List V} (r : RVs K m H x v) : x.length = v.length := r.length
theorem zip_inr : ∀ (ks : List Str) (vs : List V), (ks.zip vs).map (fun p => (V.str p.1, p.2)) = ((ks.map Sum.inr : List Key).zip vs).map (fun kv => (kV kv.1, kv.2))
  | [], _ => rfl
  | _ :: _, [] => rfl
  | k :: ks, v :: vs => by
    simp only [List.zip_cons_cons, List.map_cons, zip_inr ks vs]
    rfl
theorem s_dct {ks : List (Str × Nat × Pos)} {s : Sx (List E)} {es : List Expr} {p : Pos} (hlen : ks.length = es.length) (hc : (ks.map (·.1)) ≠ [] ∧ (ks.map (·.1)).length ≤ 15 ∧ (ks.map (·.1)).Nodup) (ha : SPs X q W s es) : SE X q W (sDct (ks.map (·.1)) s) (.Dict (ks.map fun k => some (.Constant (.str k.1) k.2.1 k.2.2)) es p) := by
  intro ρ G σ H m Q ME M F
  obtain ⟨c1, c2, c3⟩ := hc
  have hne : (ks.map fun k => (some (.Constant (.str k.1) k.2.1 k.2.2) : Option Expr)) ≠ [] := by
    cases ks with
    | nil => exact absurd rfl c1
    | cons _ _ => simp
  refine ⟨_, pe_disp (pps_of hlen) (by simp) (by simpa using hlen) hne (by simpa using c2), fun a hp => ?_⟩
  have e0 : Ext m H m (upd H a (.dK [])) := Ext.junk hp
  have M0 := M.junk (o := .dK []) hp
  have hm : ∀ n, m n ≠ some a := M.ne_none hp
  have := ha (ks.map (·.1)) ρ G σ _ m (fun vs H2 => H2 a = some (.dK []) ∧ Q (.ref a) (upd H2 a (.dK (((ks.map (·.1)).map Sum.inr).zip vs)))) (ME.ext e0) M0 (by simpa using hlen) ?_
  · refine trsOf.mono (fun ps H2 h => ?_) this
    obtain ⟨vs, rfl, h1, h2, h3⟩ := h
    refine ⟨h2, ((ks.map (·.1)).map Sum.inr).zip vs, ?_, ?_, ?_⟩
    · exact zip_inr _ _
    · simp at c2 h1 ⊢
      omega
    · rw [mergeK_nodup _ [] (fun _ _ => rfl), List.nil_append]
      · exact h3
      · rw [List.map_fst_zip (by simp [h1])]
        exact List.Pairwise.map _ (fun a b h e => h (Sum.inr.inj e)) c3
  · unfold sDct at F
    cases qs : s ρ G with
    | bad => rw [qs] at F; exact F
    | ex c G1 => rw [qs] at F; exact Fin.ext (β := V) (rel := RV X.K) (Q := Q) F e0
    | ok xs G1 =>
      rw [qs] at F
      intro m2 vs H2 e2 M2 r2
      simp only [R.bind_ok] at F
      split at F
      · rename_i hif
        have hp2 : H2 a = some (.dK []) := e2.stay a _ upd_same (fun ps z => nomatch z) hm
        have hm2 : ∀ n, m2 n ≠ some a := fun n z => by
          rcases e2.new n a z with z | z
          · exact hm n z
          · exact z.no upd_same fun ps z => nomatch z
        refine ⟨hp2, ?_⟩
        have M3 := M2.put0 (u := .dK (((ks.map (·.1)).map Sum.inr).zip vs)) hm2 hp2 rfl
        refine F (Mp.add m2 G1.length a) (.ref a) _ ?_ (M3.add hm2 ⟨_, upd_same, RKs.zip (r2.tr (Mp.add_mono M2) fun b xs z => ?_)⟩) (.ref Mp.add_self)
        · refine ⟨fun n b h => Mp.add_mono M2 n b (e2.mono n b h), fun b o h ht hb => ?_, fun b xs h => ?_, fun n b h => ?_, fun b h => ?_⟩
          · have hba := ne_of_none h hp
            rw [upd_ne hba]
            exact e2.stay b o (by rw [upd_ne hba]; exact h) ht hb
          · have hba := ne_of_none h hp
            rw [upd_ne hba]
            exact e2.tups b xs (by rw [upd_ne hba]; exact h)
          · unfold Mp.add at h
            split at h
            · cases h; exact .inr (.inl hp)
            · rcases e2.new n b h with z | z
              · exact .inl z
              · exact .inr (e0.there b z)
          · by_cases hba : b = a
            · subst hba; exact .inl hp
            · unfold NT at h
              rw [upd_ne hba] at h
              exact e0.there b (e2.there b h)
        · rw [upd_ne]
          · exact z
          · rintro rfl; rw [z] at hp2; cases hp2
      · exact F.elim
end
end Lt
end
section
set_option Elab.async false
set_option linter.all false
set_option maxRecDepth 100000
/-! Lt: soundness of what is walked, of comprehensions. -/
namespace Lt
open PySem PySem.Spec PyProof.Rows L2
section
variable {X : Cx} {q : Wq} {W : WX} {P : Par} {tg : Expr}
/-- the items, one after another -/
def RI (D : Wd) : Mp → Hp → (List E × Option Nat) → L2.It → Prop := fun m H p J => ∃ (Gd : Hp → Prop) (Y : Nat → Hp → V → Hp → Prop), Walk J p.1.length Gd Y ∧
  (∀ m' H' G', Ext m H m' H' → MtG D m' H' G' → stays p.2 p.1 G' → Gd H') ∧
  (∀ m' H' G' i x H'', i < p.1.length → Ext m H m' H' → MtG D m' H' G' → stays p.2 p.1 G' → Y i H' x H'' → H'' = H' ∧ ∃ e, p.1[i]? = some e ∧ RV D.K m' H' e x)
def wI (X : Cx) (tg it : Expr) : TI := fun σ H R => ∃ wi, PI X tg it wi ∧ wi σ H R
theorem pi_w {it : Expr} : PI X tg it (wI X tg it) := ⟨fun pins s σ H R I ⟨wi, h, q⟩ => h.run pins s σ H R I q⟩
abbrev SI (X : Cx) (q : Wq) (W : WX) (tg : Expr) (s : Sx (List E × Option Nat)) (it : Expr) : Prop := Snd (dW X q) W s (RI (dW X q)) (wI X tg it)
theorem RVs.lt {K : PySem.W.Frag} {m : Mp} {H : Hp} {x : List E} {v : List V} {i : Nat} {w : V} (r : RVs K m H x v) (h : v[i]? = some w) : ∃ e, x[i]? = some e ∧ RV K m H e w := by
  have hi : i < x.length := by rw [r.length]; exact (List.getElem?_eq_some_iff.mp h).1
  obtain ⟨w2, h1, h2⟩ := RVs.get (i := i) r (List.getElem?_eq_getElem hi)
  rw [h] at h1; cases h1
  exact ⟨_, List.getElem?_eq_getElem hi, h2⟩
theorem ri_fix {J : L2.It} {xs : List E} {vs : List V} {m : Mp} {H : Hp} {Gd : Hp → Prop} {D : Wd} (r : RVs D.K m H xs vs) (w : Walk J vs.length Gd (YAt vs)) (hg : ∀ m' H', Ext m H m' H' → Gd H') : RI D m H (xs, none) J := by
  refine ⟨Gd, YAt vs, by rw [show (xs, (none : Option Nat)).1.length = vs.length from r.length]; exact w, fun m' H' G' e _ _ => hg m' H' e, fun m' H' G' i x H'' hi e M _ y => ?_⟩
  obtain ⟨y1, y2⟩ := y
  exact ⟨y1, (r.ext e).lt y2⟩
theorem i_l {s : Sx LH} {e : Expr} (ha : SL X q W s e) : SI X q W tg (sItL s) e := by
  intro ρ G σ H m Q ME M F
  refine ⟨_, pi_list pe_w, ?_⟩
  refine ha ρ G σ H m _ ME M (F.bind fun x G1 m1 x' H1 _ e1 M1 r1 F1 => ?_)
  cases qx : x.get G1 with
  | none => rw [qx] at F1; exact F1.elim
  | some xs =>
    rw [qx] at F1
    obtain ⟨a, vs, rfl, sq, rs⟩ := RL.get r1.1 M1 qx
    refine ⟨a, rfl, ⟨vs, sq⟩, ?_⟩
    cases x with
    | tmp ys =>
      cases qx
      obtain ⟨⟨b, ws, e, h, r, hn⟩, _⟩ := r1
      cases e
      refine Fin.here F1 M1 (ri_fix r walk_list fun m' H' e => .inl (.inl (e.stay _ _ h (fun ps z => nomatch z) hn)))
    | pl n =>
      obtain ⟨⟨b, e, hn⟩, _⟩ := r1
      cases e
      have key : ∀ m' H' G', Ext m1 H1 m' H' → MtG (dW X q) m' H' G' → stays (some n) xs G' → ∃ ws, SqL X.K H' a ws ∧ RVs X.K m' H' xs ws := fun m' H' G' e M' st => by
        obtain ⟨b, ws, e1, h1, h2⟩ := RL.get (X := X) (q := q) (l := .pl n) ⟨a, rfl, e.mono n a hn⟩ M' st
        cases e1
        exact ⟨ws, h1, h2⟩
      refine Fin.here F1 M1 ⟨fun H => ∃ ws, SqL X.K H a ws ∧ ws.length = xs.length, fun i H x H' => (Itl X.K a).yld i H x H', ⟨fun i H hi ⟨ws, h1, h2⟩ => ⟨ws, _, h1, List.getElem?_eq_getElem (by rw [h2]; exact hi)⟩, fun H ⟨ws, h1, h2⟩ => ⟨ws, h1, Nat.le_of_eq h2⟩, fun i H x H' _ _ y => y⟩, fun m' H' G' e M' st => ?_, fun m' H' G' i x H'' hi e M' st y => ?_⟩
      · obtain ⟨ws, h1, h2⟩ := key m' H' G' e M' st
        exact ⟨ws, h1, h2.length.symm⟩
      · obtain ⟨ws, h1, h2⟩ := key m' H' G' e M' st
        obtain ⟨y1, y2⟩ := y
        exact ⟨y1, h2.lt (y2 ws h1)⟩
/-! ### the items of a value, whatever it is -/
def ItR (X : Cx) (tg : Expr) (r : V → Hp → (L2.It → Hp → Prop) → Prop) : Prop :=
  ∀ (pins : List (Addr × Obj)) (s : Shared) (σ : L2.St) (H : Hp) (x : V) (v : Value) (R : L2.It → Hp → Prop), Inv X pins σ H s → RelV x v → r x H R → wpAny (model X.prog X.w) X.A (pyIter v) (PIE X pins σ tg R) X.xe s
def wIr (X : Cx) (tg : Expr) : V → Hp → (L2.It → Hp → Prop) → Prop := fun x H R => ∃ r, ItR X tg r ∧ r x H R
theorem pi_r {e : Expr} {te : TE} (he : PE X e te) : PI X tg e (fun σ H R => te σ H fun x H1 => wIr X tg x H1 R) :=
  ⟨fun pins s σ H R I h => thn (he.run pins s σ H _ I h) fun v s1 ⟨x, H1, I1, r1, r, hr, q⟩ => hr pins s1 σ H1 x v R I1 r1 q⟩
theorem itr_list : ItR X tg (fun x H R => ∃ a, x = .ref a ∧ (∃ xs, SqL X.K H a xs) ∧ R (Itl X.K a) H) := by
  intro pins s1 σ H1 x v R I1 r1 q1
  obtain ⟨a, e, ⟨xs, hq⟩, q⟩ := q1
  subst e
  cases r1
  obtain ⟨its, rv, p, hz⟩ := I1.list hq
  refine wpAny_pyIter_list p.isList ?_
  refine ⟨s1.heap.objs.size, [s1.heap.objs.size], _, _, H1, rfl, I1.kept (t' := s1.toks) fun b o e => Heap.get?_push_of_some _ e, turn_list a _, ⟨_, Heap.get?_push_size _ rfl, rfl, rfl⟩, fun b hb => ?_, q⟩
  have e : b = s1.heap.objs.size := by simpa using hb
  subst e
  exact I1.fpOk (Nat.le_refl _) (I1.hok.fresh (Nat.le_refl _))
theorem itr_tup : ItR X tg (fun x H R => ∃ a, x = .ref a ∧ (∃ xs, SqT X.K H a xs) ∧ R (Itt X.K a) H) := by
  intro pins s1 σ H1 x v R I1 r1 q1
  obtain ⟨a, e, ⟨xs, hq⟩, q⟩ := q1
  subst e
  cases r1
  obtain ⟨its, rv, p, hz⟩ := I1.tuple hq
  refine wpAny_pyIter_tuple (show s1.heap.IsTuple a its.toArray from p) ?_
  refine ⟨s1.heap.objs.size, [s1.heap.objs.size], _, _, H1, rfl, I1.kept (t' := s1.toks) fun b o e => Heap.get?_push_of_some _ e, turn_tuple a _, ⟨_, Heap.get?_push_size _ rfl, rfl, rfl⟩, fun b hb => ?_, q⟩
  have e : b = s1.heap.objs.size := by simpa using hb
  subst e
  exact I1.fpOk (Nat.le_refl _) (I1.hok.fresh (Nat.le_refl _))
theorem itr_str : ItR X tg (fun x H R => ∃ z, x = .str z ∧ R (Its z) H) := by
  intro pins s1 σ H1 y v R I1 r1 q1
  obtain ⟨x, ex, q⟩ := q1
  subst ex
  obtain ⟨t, rfl⟩ := r1
  cases ha : x.cps.all (· < 128)
  · exact wpAny_pyIter_wide ha (pi_one (tk := s1.toks) I1 _ (turn_str _ x t "str_iterator" (.inr rfl)) ⟨_, Heap.get?_push_size _ rfl, rfl, rfl⟩ q)
  · exact wpAny_pyIter_ascii ha (pi_one (tk := s1.toks) I1 _ (turn_str _ x t "str_ascii_iterator" (.inl rfl)) ⟨_, Heap.get?_push_size _ rfl, rfl, rfl⟩ q)
theorem rv_signs {K : PySem.W.Frag} {m : Mp} {H : Hp} : ∀ l : List Nat, RVs K m H (l.map fun c => .str ⟨#[c]⟩) (l.map fun c => V.str ⟨#[c]⟩)
  | [] => .nil
  | c :: l => .cons (.str _) (rv_signs l)
theorem ri_str {D : Wd} {m : Mp} {H : Hp} {z : Str} : RI D m H (signs z, none) (Its z) := by
  refine ri_fix (vs := z.cps.toList.map fun c => V.str ⟨#[c]⟩) (Gd := fun _ => True) (rv_signs _) ?_ fun _ _ _ => True.intro
  have w := walk_str (z := z)
  rw [show (z.cps.toList.map fun c => V.str ⟨#[c]⟩).length = z.cps.size by simp]
  refine w.mono (fun _ h => h) fun i H x H' hi _ y => ?_
  obtain ⟨rfl, c, h1, rfl⟩ := y
  exact ⟨rfl, by rw [List.getElem?_map, Array.getElem?_toList, h1]; rfl⟩
theorem ri_pl {m : Mp} {H : Hp} {n : Nat} {a : Addr} {xs : List E} (hn : m n = some a) : RI (dW X q) m H (xs, some n) (Itl X.K a) := by
  have key : ∀ m' H' G', Ext m H m' H' → MtG (dW X q) m' H' G' → stays (some n) xs G' → ∃ ws, SqL X.K H' a ws ∧ RVs X.K m' H' xs ws := fun m' H' G' e M' st => by
    obtain ⟨b, ws, e1, h1, h2⟩ := RL.get (X := X) (q := q) (l := .pl n) ⟨a, rfl, e.mono n a hn⟩ M' st
    cases e1
    exact ⟨ws, h1, h2⟩
  refine ⟨fun H => ∃ ws, SqL X.K H a ws ∧ ws.length = xs.length, fun i H x H' => (Itl X.K a).yld i H x H', ⟨fun i H hi ⟨ws, h1, h2⟩ => ⟨ws, _, h1, List.getElem?_eq_getElem (by rw [h2]; exact hi)⟩, fun H ⟨ws, h1, h2⟩ => ⟨ws, h1, Nat.le_of_eq h2⟩, fun i H x H' _ _ y => y⟩, fun m' H' G' e M' st => ?_, fun m' H' G' i x H'' hi e M' st y => ?_⟩
  · obtain ⟨ws, h1, h2⟩ := key m' H' G' e M' st
    exact ⟨ws, h1, h2.length.symm⟩
  · obtain ⟨ws, h1, h2⟩ := key m' H' G' e M' st
    obtain ⟨y1, y2⟩ := y
    exact ⟨y1, h2.lt (y2 ws h1)⟩
theorem i_a {s : Sx E} {e : Expr} (ha : SE X q W s e) : SI X q W tg (sItA s) e := by
  intro ρ G σ H m Q ME M F
  refine ⟨_, pi_r pe_w, ?_⟩
  refine ha ρ G σ H m _ ME M (F.bind fun x G1 m1 x' H1 _ e1 M1 r1 F1 => ?_)
  obtain ⟨p, hp, F1⟩ := optR_fin F1
  cases r1 with
  | @tup es a vs t rs =>
    cases hp
    exact ⟨_, itr_tup, a, rfl, ⟨vs, t.sq⟩, Fin.here F1 M1 (ri_fix rs walk_tup fun m' H' e => (t.ext e).sq)⟩
  | str z =>
    cases hp
    exact ⟨_, itr_str, z, rfl, Fin.here F1 M1 ri_str⟩
  | @ref n a hn =>
    simp only [itE, Option.map_eq_some_iff] at hp
    obtain ⟨xs, hx, rfl⟩ := hp
    obtain ⟨b, vs, eb, sq, rs⟩ := RL.get (X := X) (q := q) (l := .pl n) ⟨a, rfl, hn⟩ M1 hx
    cases eb
    exact ⟨_, itr_list, a, rfl, ⟨vs, sq⟩, Fin.here F1 M1 (ri_pl hn)⟩
  | _ => cases hp
theorem rv_rng {K : PySem.W.Frag} {m : Mp} {H : Hp} (lo : Int) : ∀ l : List Nat, RVs K m H (l.map fun (k : Nat) => .int (lo + (k : Int))) (l.map fun (k : Nat) => V.int (lo + (k : Int)))
  | [] => .nil
  | c :: l => .cons (.int _) (rv_rng lo l)
theorem ri_rng {D : Wd} {m : Mp} {H : Hp} {lo : Int} {n : Nat} : RI D m H (rng lo n, none) (Itr lo n) := by
  refine ri_fix (vs := (List.range n).map fun (k : Nat) => V.int (lo + (k : Int))) (Gd := fun _ => True) (rv_rng lo _) ?_ fun _ _ _ => True.intro
  have w := walk_range (lo := lo) (n := n)
  rw [show ((List.range n).map fun (k : Nat) => V.int (lo + (k : Int))).length = n by simp]
  refine w.mono (fun _ h => h) fun i H x H' hi _ y => ?_
  obtain ⟨rfl, rfl⟩ := y
  exact ⟨rfl, by rw [List.getElem?_map, List.getElem?_range hi]; rfl⟩
theorem in62_of {i : Int} (h : in62 i = true) : -(2 ^ 62) ≤ i ∧ i < 2 ^ 62 := by simpa [in62] using h
theorem RV.intE {K : PySem.W.Frag} {m : Mp} {H : Hp} {x : E} {v : V} {i : Int} (r : RV K m H x v) (h : intE x = some i) : v = .int i := by
  cases r <;> cases h; rfl
theorem i_r1 {s : Sx E} {a : Expr} {p1 p : Pos} (hg : Gl X "range") (hm : X.mg "range" = none) (hs : starEach [a] X.env = [(false, eval a X.env)]) (ha : SE X q W s a) : SI X q W tg (sItR1 s) (.Call (.Name "range" p1) [a] [] p) := by
  intro ρ G σ H m Q ME M F
  refine ⟨_, pi_range1 hg hm (pa_cons pe_w pa_nil hs) hs, ?_⟩
  refine ha ρ G σ H m _ ME M (F.bind fun x G1 m1 x' H1 _ e1 M1 r1 F1 => ?_)
  cases qi : intE x with
  | none => rw [qi] at F1; exact F1.elim
  | some i =>
    rw [qi] at F1
    simp only [optR_some, R.bind_ok] at F1
    split at F1
    · rename_i h62
      exact ⟨i, by rw [r1.intE qi], (in62_of h62).1, (in62_of h62).2, Fin.here F1 M1 ri_rng⟩
    · exact F1.elim
theorem i_r2 {sa sb : Sx E} {a b : Expr} {p1 p : Pos} (hg : Gl X "range") (hm : X.mg "range" = none) (hs : starEach [a, b] X.env = [(false, eval a X.env), (false, eval b X.env)]) (hs2 : starEach [b] X.env = [(false, eval b X.env)]) (ha : SE X q W sa a) (hb : SE X q W sb b) :
    SI X q W tg (sItR2 sa sb) (.Call (.Name "range" p1) [a, b] [] p) := by
  intro ρ G σ H m Q ME M F
  refine ⟨_, pi_range2 hg hm (pa_cons pe_w (pa_cons pe_w pa_nil hs2) (by rw [hs, hs2])) hs hs2, ?_⟩
  refine ha ρ G σ H m _ ME M (F.bind fun x G1 m1 x' H1 _ e1 M1 r1 F1 => ?_)
  refine hb ρ G1 σ H1 m1 _ (ME.ext e1) M1 (F1.bind fun y G2 m2 y' H2 _ e2 M2 r2 F2 => ?_)
  cases qi : intE x with
  | none => rw [qi] at F2; exact F2.elim
  | some i =>
    cases qj : intE y with
    | none => rw [qi, qj] at F2; exact F2.elim
    | some j =>
      rw [qi, qj] at F2
      simp only [optR_some, R.bind_ok] at F2
      split at F2
      · rename_i h62
        rw [Bool.and_eq_true] at h62
        exact ⟨i, j, by rw [r1.intE qi, r2.intE qj], ⟨(in62_of h62.1).1, (in62_of h62.1).2, (in62_of h62.2).1, (in62_of h62.2).2⟩, Fin.here F2 M2 ri_rng⟩
      · exact F2.elim
end
end Lt
end
section
set_option Elab.async false
set_option linter.all false
set_option maxRecDepth 100000
/-! Lt: soundness of targets and comprehensions. -/
namespace Lt
open PySem PySem.Spec PyProof.Rows L2
section
variable {X : Cx} {q : Wq} {W : WX} {P : Par}
def gNs : List Nm → TGs
  | [] => gNil
  | n :: r => gCons (gName n.i) (gNs r)
def gTg (K : PySem.W.Frag) : Tg → TG
  | .name n => gName n.i
  | .tup ns _ _ => gTup K ns.length (gNs ns)
def Tg.slots : Tg → List Nat
  | .name n => [n.i]
  | .tup ns _ _ => ns.map (·.i)
def Tg.nms : Tg → List Nm
  | .name n => [n]
  | .tup ns _ _ => ns
/-- a name that may be stored -/
def NmOk (X : Cx) (n : Nm) : Prop := X.N[n.i]? = some n.x ∧ Loc X.env.scope n.x ∧ (X.fn n.x = true ∨ X.env.scope.names.lookup n.x = some .local)
theorem pg_nm {n : Nm} (hN : X.N.Nodup) (h : NmOk X n) : PG X n.py (gName n.i) := pg_name hN h.1 h.2.1 h.2.2
theorem each_nms (env : Env) : ∀ ns : List Nm, (assignEach (ns.map Nm.py) env).findIdx? (·.1) = none ∧ (assignEach (ns.map Nm.py) env).length = ns.length
  | [] => ⟨rfl, rfl⟩
  | n :: r => by
    have h := each_nms env r
    have e : assignEach ((n :: r).map Nm.py) env = (false, assign n.py env) :: assignEach (r.map Nm.py) env := by rfl
    rw [e]
    constructor
    · rw [List.findIdx?_cons, h.1]; rfl
    · rw [List.length_cons, h.2]; rfl
theorem pgs_nms (hN : X.N.Nodup) : ∀ {ns : List Nm}, (∀ n ∈ ns, NmOk X n) → PGs X (ns.map Nm.py) (gNs ns)
  | [], _ => pgs_nil
  | n :: r, h => pgs_cons (pg_nm hN (h n List.mem_cons_self)) (pgs_nms hN fun n hn => h n (List.mem_cons_of_mem _ hn)) (by rfl)
theorem pg_tg {t : Tg} (hc : X.calm = true) (hN : X.N.Nodup) (h : ∀ n ∈ t.nms, NmOk X n) : PG X t.py (gTg X.K t) := by
  cases t with
  | name n => exact pg_nm hN (h n (List.mem_cons_self))
  | tup ns k p => exact pg_tup hc (pgs_nms hN h) (each_nms _ ns).2 (each_nms _ ns).1
theorem wipe_set {σ : L2.St} {i : Nat} {v : Option V} : ∀ {vs : List Nat}, i ∈ vs → wipe (σ.set i v) vs = wipe σ vs
  | [], h => by cases h
  | j :: vs, h => by
    unfold wipe
    by_cases hj : i ∈ vs
    · rw [wipe_set hj]
    · have e : i = j := by
        rcases List.mem_cons.mp h with z | z
        · exact z
        · exact absurd z hj
      subst e
      have key : ∀ vs : List Nat, i ∉ vs → wipe (σ.set i v) vs = (wipe σ vs).set i v := by
        intro vs
        induction vs with
        | nil => intro _; rfl
        | cons k vs ih =>
          intro hk
          unfold wipe
          rw [ih fun z => hk (List.mem_cons_of_mem _ z), List.set_comm]
          exact fun e => hk (e ▸ List.mem_cons_self)
      rw [key vs hj, List.set_set]
theorem ns_ok {K : PySem.W.Frag} {m : Mp} {H : Hp} {Q : L2.St → Hp → Prop} : ∀ {ns : List Nm} {es : List E} {vs : List V} {ρ ρ1 : Ro} {σ : L2.St}, setAll ns es ρ = some ρ1 → RVs K m H es vs → MtE K m H ρ σ →
    (∀ σ1, MtE K m H ρ1 σ1 → (∀ ws : List Nat, (∀ n ∈ ns, n.i ∈ ws) → wipe σ1 ws = wipe σ ws) → Q σ1 H) → gNs ns vs σ H Q
  | [], [], _, ρ, ρ1, σ, h, .nil, ME, k => by cases h; exact ⟨rfl, k σ ME fun _ _ => rfl⟩
  | n :: ns, e :: es, _, ρ, ρ1, σ, h, .cons a r, ME, k => ⟨_, _, rfl, ns_ok (ns := ns) h r (ME.set a) fun σ1 M1 hw => k σ1 M1 fun ws hws => by
      rw [hw ws fun n hn => hws n (List.mem_cons_of_mem _ hn), wipe_set (hws n List.mem_cons_self)]⟩
  | [], _ :: _, _, _, _, _, h, _, _, _ => by cases h
  | _ :: _, [], _, _, _, _, h, _, _, _ => by cases h
theorem setAll_len : ∀ {ns : List Nm} {es : List E} {ρ ρ1 : Ro}, setAll ns es ρ = some ρ1 → es.length = ns.length
  | [], [], _, _, _ => rfl
  | _ :: ns, _ :: es, _, _, h => by rw [List.length_cons, List.length_cons, setAll_len (ns := ns) h]
  | [], _ :: _, _, _, h => by cases h
  | _ :: _, [], _, _, h => by cases h
theorem tg_ok {K : PySem.W.Frag} {m : Mp} {H : Hp} {Q : L2.St → Hp → Prop} {t : Tg} {x : E} {v : V} {ρ ρ1 : Ro} {σ : L2.St} (h : t.set x ρ = some ρ1) (r : RV K m H x v) (ME : MtE K m H ρ σ)
    (k : ∀ σ1, MtE K m H ρ1 σ1 → (∀ ws : List Nat, (∀ n ∈ t.nms, n.i ∈ ws) → wipe σ1 ws = wipe σ ws) → Q σ1 H) : gTg K t v σ H Q := by
  cases t with
  | name n => cases h; exact k _ (ME.set r) fun ws hw => wipe_set (hw n List.mem_cons_self)
  | tup ns k' p =>
    cases r with
    | @tup es a vs ta rs =>
      exact ⟨a, vs, rfl, ta.sq, by rw [← rs.length]; exact setAll_len h, ns_ok h rs ME k⟩
    | _ => cases h
theorem MtE.unset {K : PySem.W.Frag} {m : Mp} {H : Hp} {ρ : Ro} {σ : L2.St} {i : Nat} (h : MtE K m H ρ σ) : MtE K m H (ρ.set i none) (σ.set i none) := by
  refine ⟨by rw [List.length_set, List.length_set, h.1], fun j x q => ?_⟩
  by_cases hj : i = j
  · subst hj
    have hl : i < ρ.length := by
      have := (List.getElem?_eq_some_iff.mp q).1
      simpa using this
    rw [List.getElem?_set_self hl] at q
    cases q
  · rw [List.getElem?_set_ne hj] at q ⊢
    exact h.2 j x q
theorem MtE.wipe {K : PySem.W.Frag} {m : Mp} {H : Hp} {ρ : Ro} {σ : L2.St} (h : MtE K m H ρ σ) : ∀ vs : List Nat, MtE K m H (wipeR ρ vs) (L2.wipe σ vs)
  | [] => h
  | v :: vs => (MtE.wipe h vs).unset
/-! ### comprehensions -/
abbrev blk (X : Cx) (s : Shared) (H : Hp) (scope : Scope) (C : Addr) (cl : List (Str × Addr)) (fp : List Addr) : Cx := X.blk s H scope (compEnvC scope cl C X.env) fp
theorem R.nox_ok {α : Type} {r : R α} {a : α} {G : Hq} (h : r.nox = .ok a G) : r = .ok a G := by
  cases r <;> first | exact h | cases h
def W0 : WX := fun _ _ _ _ => False
/-- of a result that comes -/
theorem Fin.of_ok {D : Wd} {W : WX} {σ : L2.St} {α β : Type} {m : Mp} {H : Hp} {r : R α} {rel : Mp → Hp → α → β → Prop} {Q : β → Hp → Prop} {v : α} {G : Hq} (e : r = .ok v G) (h : ∀ m' v' H', Ext m H m' H' → MtG D m' H' G → rel m' H' v v' → Q v' H') : Fin D W σ m H r rel Q := by
  subst e; exact h
/-- the state at a turn -/
def LcAt (D : Wd) (W : WX) (σ : L2.St) (m1 : Mp) (H1 H0 : Hp) (L : Addr) (ρ : Ro) (st : Option Nat) (all : List E) (t : Tg) (c : Sx Bool) (e : Sx E) (Q : V → Hp → Prop) (i : Nat) (H : Hp) : Prop :=
  ∃ m' G' acc accV, Ext m1 H1 m' H ∧ MtG D m' H G' ∧ H L = some (.lst accV) ∧ RVs D.K m' H acc accV ∧ (∀ n, m' n ≠ some L) ∧
    Fin D W σ m1 H1 ((lcS st all t c e ρ (all.drop i) acc G').bind fun ys G2 => .ok (LH.tmp ys) G2) (RLn D.K H0) Q
theorem lc_bad {D : Wd} {W : WX} {σ : L2.St} {α β γ : Type} {m : Mp} {H : Hp} {b : Bool} {r : R γ} {f : γ → Hq → R α} {rel : Mp → Hp → α → β → Prop} {Q : β → Hp → Prop} (h : Fin D W σ m H ((if b = true then r else .bad).bind f) rel Q) : b = true ∧ Fin D W σ m H (r.bind f) rel Q := by
  cases b with
  | true => exact ⟨rfl, h⟩
  | false => exact h.elim
end
end Lt
end
section
set_option Elab.async false
set_option linter.all false
set_option maxRecDepth 100000
/-! Lt: soundness of comprehensions. -/
namespace Lt
open PySem PySem.Spec PyProof.Rows L2
section
variable {X : Cx} {q : Wq} {W : WX} {P : Par}
theorem wipe_get (σ : L2.St) : ∀ (vs : List Nat) (j : Nat), (L2.wipe σ vs)[j]? = if j ∈ vs then σ[j]?.map (fun _ => none) else σ[j]?
  | [], j => by simp [L2.wipe]
  | v :: vs, j => by
    unfold L2.wipe
    by_cases hj : v = j
    · subst hj
      rw [if_pos List.mem_cons_self]
      by_cases hl : v < σ.length
      · rw [List.getElem?_set_self (by rw [wipe_length]; exact hl), List.getElem?_eq_getElem hl]; rfl
      · rw [List.getElem?_eq_none (by rw [List.length_set, wipe_length]; omega), List.getElem?_eq_none (by omega)]; rfl
    · rw [List.getElem?_set_ne hj, wipe_get σ vs j]
      by_cases hm : j ∈ vs
      · rw [if_pos hm, if_pos (List.mem_cons_of_mem _ hm)]
      · rw [if_neg hm, if_neg (fun z => by rcases List.mem_cons.mp z with z | z; exact hj z.symm; exact hm z)]
theorem wipe_wipe (σ : L2.St) (vs : List Nat) : L2.wipe (L2.wipe σ vs) vs = L2.wipe σ vs := by
  apply List.ext_getElem?
  intro j
  rw [wipe_get, wipe_get]
  by_cases hm : j ∈ vs
  · rw [if_pos hm, if_pos hm, Option.map_map]; rfl
  · rw [if_neg hm, if_neg hm]
def wTs (X : Cx) (ifs : List Expr) : TT := fun σ H Q => ∃ t, PTs X ifs t ∧ t σ H Q
theorem pts_w {ifs : List Expr} : PTs X ifs (wTs X ifs) := ⟨fun pins s σ H Q I ⟨t, h, q⟩ => h.run pins s σ H Q I q⟩
theorem lcS_stays {D : Wd} {σ : L2.St} {m : Mp} {H : Hp} {st : Option Nat} {all r : List E} {t : Tg} {c : Sx Bool} {e : Sx E} {ρ : Ro} {acc : List E} {G : Hq} {α β : Type} {f : List E → Hq → R α} {rel : Mp → Hp → α → β → Prop} {Q : β → Hp → Prop}
    (h : Fin D W σ m H ((lcS st all t c e ρ r acc G).bind f) rel Q) : staysB st all G = true := by
  cases r with
  | nil => unfold lcS at h; exact (lc_bad h).1
  | cons x r => unfold lcS at h; exact (lc_bad h).1
def bT (X : Cx) (scope : Scope) (ifs : List Expr) : TT := fun σ H Q => ∀ s H0 C cl fp, wTs (blk X s H0 scope C cl fp) ifs σ H Q
def bE (X : Cx) (scope : Scope) (e : Expr) : TE := fun σ H Q => ∀ s H0 C cl fp, wE (blk X s H0 scope C cl fp) e σ H Q
theorem lc_rd {it : Sx (List E × Option Nat)} {c : Sx Bool} {e : Sx E} {t : Tg} {elt iter : Expr} {ifs : List Expr} {scope : Scope} {own : List (Str × Nat)}
    (hi : SI X q W t.py it iter) (hsl : ∀ n ∈ t.nms, n.i ∈ own.map (·.2))
    (hc : ∀ s H C cl fp, Snd (dW X q) W0 c RB (wTs (blk X s H scope C cl fp) ifs)) (he : ∀ s H C cl fp, SE (blk X s H scope C cl fp) q W0 e elt)
    {ρ : Ro} {G : Hq} {σ : L2.St} {H : Hp} {m : Mp} {Q : VK} (ME : MtE X.K m H ρ σ) (M : MtG (dW X q) m H G) (F : Fin (dW X q) W σ m H (sLc it t c e (own.map (·.2)) ρ G) (RLn X.K H) Q) :
    tLc (wI X t.py iter) (gTg X.K t) (bT X scope ifs) (bE X scope elt) (own.map (·.2)) σ H Q := by
  refine hi ρ G σ H m _ ME M (F.bind fun xs G1 m1 J H1 _ e1 M1 r1 F1 => ?_)
  intro L hL
  obtain ⟨Gd, Y, w, hG, hY⟩ := r1
  have st0 : ∀ {i H'}, LcAt (dW X q) W σ m1 H1 H L (wipeR ρ (own.map (·.2))) xs.2 xs.1 t c e Q i H' → ∃ m' G', Ext m1 H1 m' H' ∧ MtG (dW X q) m' H' G' ∧ stays xs.2 xs.1 G' := fun {i H'} h => by
    obtain ⟨m', G', acc, accV, h1, h2, h3, h4, h5, h6⟩ := h
    exact ⟨m', G', h1, h2, staysB_of (lcS_stays h6)⟩
  refine lc_it (g := gTg X.K t) (tt := bT X scope ifs) (te := bE X scope elt) (vs := own.map (·.2)) (σ := σ) (H1 := H1) (D := L) (Qd := Q (.ref L)) w (Pv := LcAt (dW X q) W σ m1 H1 H L (wipeR ρ (own.map (·.2))) xs.2 xs.1 t c e Q) ?_ ?_ ?_ ?_
  · refine ⟨m1, G1, [], [], Ext.junk hL, M1.junk hL, upd_same, .nil, M1.ne_none hL, ?_⟩
    rw [List.drop_zero]
    exact F1
  · intro i H' _ h
    obtain ⟨m', G', h1, h2, h3⟩ := st0 h
    exact hG m' H' G' h1 h2 h3
  · intro i x H2 H3 hi2 h hy
    have h0 := h
    obtain ⟨m', G', acc, accV, x1, x2, x3, x4, x5, x6⟩ := h
    have hst := staysB_of (lcS_stays x6)
    obtain ⟨rfl, y, hy1, hy2⟩ := hY m' H2 G' i x H3 hi2 x1 x2 hst hy
    have hd : xs.1.drop i = y :: xs.1.drop (i + 1) := by
      have := List.getElem?_eq_some_iff.mp hy1
      obtain ⟨hl, he⟩ := this
      rw [List.drop_eq_getElem_cons hl, he]
    rw [hd] at x6
    unfold lcS at x6
    have x7 := (lc_bad x6).2
    cases hset : t.set y (wipeR ρ (own.map (·.2))) with
    | none => rw [hset] at x7; exact x7.elim
    | some ρ1 =>
      rw [hset] at x7
      simp only [optR_some, R.bind_ok] at x7
      refine tg_ok hset hy2 ((ME.ext (e1.trans x1)).wipe _) fun σ1 ME1 hw => ⟨by rw [hw _ hsl, wipe_wipe], fun s H0 C0 cl fp => ?_⟩
      refine hc s H0 C0 cl fp ρ1 G' σ1 H3 m' _ ME1 x2 ?_
      cases hcr : (c ρ1 G').nox with
      | bad => rw [hcr] at x7; exact x7.elim
      | ex k G2 => cases hq : c ρ1 G' <;> rw [hq] at hcr <;> cases hcr
      | ok b G2 =>
        rw [hcr] at x7
        simp only [R.bind_ok] at x7
        refine Fin.of_ok (R.nox_ok hcr) fun m2 b' H4 e2 M2 rb => ?_
        cases rb
        have x8 := x7
        have hL2 : H4 L = some (.lst accV) := e2.stay L _ x3 (fun ps z => nomatch z) x5
        have hm2 : ∀ n, m2 n ≠ some L := fun n z => by
          rcases e2.new n L z with z | z
          · exact x5 n z
          · exact z.no x3 fun ps z => nomatch z
        cases b with
        | false =>
          rw [if_neg (by decide)] at x8
          exact ⟨m2, G2, acc, accV, x1.trans e2, M2, hL2, x4.ext e2, hm2, x8⟩
        | true =>
          rw [if_pos rfl] at x8
          show bE X scope elt σ1 H4 _
          intro s H0 C0 cl fp
          refine he s H0 C0 cl fp ρ1 G2 σ1 H4 m2 _ (ME1.ext e2) M2 ?_
          cases her : (e ρ1 G2).nox with
          | bad => rw [her] at x8; exact x8.elim
          | ex k G3 => cases hq : e ρ1 G2 <;> rw [hq] at her <;> cases her
          | ok v G3 =>
            rw [her] at x8
            simp only [R.bind_ok] at x8
            refine Fin.of_ok (R.nox_ok her) fun m3 v' H5 e3 M3 rv => ?_
            have x9 := x8
            have hL3 : H5 L = some (.lst accV) := e3.stay L _ hL2 (fun ps z => nomatch z) hm2
            have hm3 : ∀ n, m3 n ≠ some L := fun n z => by
              rcases e3.new n L z with z | z
              · exact hm2 n z
              · exact z.no hL2 fun ps z => nomatch z
            split at x9
            · rename_i hlen
              have ra := (x4.ext e2).ext e3
              refine ⟨accV, hL3, by rw [← ra.length]; exact hlen, ?_⟩
              have tup : ∀ b xs, H5 b = some (.tup xs) → upd H5 L (.lst (accV ++ [v'])) b = some (.tup xs) := fun b xs z => by
                rw [upd_ne]
                · exact z
                · rintro rfl; rw [z] at hL3; cases hL3
              have E3 := (x1.trans e2).trans e3
              have E4 : Ext m1 H1 m3 (upd H5 L (.lst (accV ++ [v']))) := by
                refine ⟨E3.mono, fun a o h ht hn => ?_, fun a xs h => tup a xs (E3.tups a xs h), E3.new, fun a h => ?_⟩
                · rw [upd_ne (ne_of_none h hL)]; exact E3.stay a o h ht hn
                · by_cases ha : a = L
                  · subst ha; exact .inl hL
                  · unfold NT at h; rw [upd_ne ha] at h; exact E3.there a h
              refine ⟨m3, G3, acc ++ [v], accV ++ [v'], E4, M3.put0 hm3 hL3 rfl, upd_same, (ra.append (.cons rv .nil)).tr (fun _ _ z => z) tup, hm3, ?_⟩
              exact x9
            · exact x9.elim
  · intro H' h
    obtain ⟨m', G', acc, accV, x1, x2, x3, x4, x5, x6⟩ := h
    rw [List.drop_length] at x6
    unfold lcS at x6
    have x7 := (lc_bad x6).2
    exact Fin.to x7 x1 x2 ⟨⟨L, accV, rfl, x3, x4, x5⟩, fun _ _ => ⟨L, rfl, e1.there L (.inl hL)⟩⟩
theorem bT_ok {scope : Scope} {ifs : List Expr} (s : Shared) (H0 : Hp) (C0 : Addr) (cl : List (Str × Addr)) (fp : List Addr) : PTs (blk X s H0 scope C0 cl fp) ifs (bT X scope ifs) := ⟨fun pins s' σ H Q I h => by
  obtain ⟨t, ht, q⟩ := h s H0 C0 cl fp
  exact ht.run pins s' σ H Q I q⟩
theorem bE_ok {scope : Scope} {e : Expr} (s : Shared) (H0 : Hp) (C0 : Addr) (cl : List (Str × Addr)) (fp : List Addr) : PE (blk X s H0 scope C0 cl fp) e (bE X scope e) := ⟨fun pins s' σ H Q I h => by
  obtain ⟨t, ht, q⟩ := h s H0 C0 cl fp
  exact ht.run pins s' σ H Q I q⟩
theorem l_lc {it : Sx (List E × Option Nat)} {c : Sx Bool} {e : Sx E} {t : Tg} {elt iter : Expr} {ifs : List Expr} {scope : Scope} {own : List (Str × Nat)} {p : Pos} (C : CxG X W) (ok : BlkOk X.N X.env.scope scope own)
    (hi : SI X q W t.py it iter) (hnm : ∀ s H C cl fp, ∀ n ∈ t.nms, NmOk (blk X s H scope C cl fp) n) (hsl : ∀ n ∈ t.nms, n.i ∈ own.map (·.2))
    (hc : ∀ s H C cl fp, Snd (dW X q) W0 c RB (wTs (blk X s H scope C cl fp) ifs)) (he : ∀ s H C cl fp, SE (blk X s H scope C cl fp) q W0 e elt) (hs : ∀ x, foldedSetIterable iter X.env x = pure x) :
    SL X q W (sLc it t c e (own.map (·.2))) (.ListComp elt [⟨t.py, iter, ifs, 0⟩] scope p) := fun ρ G σ H m Q ME M F =>
  ⟨_, pe_lc C.calm C.nd pi_w ok (fun s H0 C0 cl fp => pg_tg (X := blk X s H0 scope C0 cl fp) C.calm C.nd (hnm s H0 C0 cl fp)) bT_ok bE_ok hs, lc_rd hi hsl hc he ME M F⟩
end
end Lt
end
section
set_option Elab.async false
set_option linter.all false
set_option maxRecDepth 100000
/-! Lt: soundness of a lambda that is handed to a def that tries it. -/
namespace Lt
open PySem PySem.Spec PyProof.Rows L2
section
variable {X : Cx} {q : Wq} {W : WX} {P : Par}
/-- try: a() / except x: return True // return False -/
def TTref (K : PySem.W.Frag) (CS : Addr) : (XK → Hp → VK → Prop) → Hp → VK → Prop := fun tl H Q =>
  tl (fun cls _ H' => ∃ b, PySem.W.exmOne K cls (.ref CS) = some b ∧ (b = true → Q (.bl true) H') ∧ (b = false → False)) H fun _ H' => Q (.bl false) H'
theorem refd_gives {Ng : List Str} {x a e qq : Str} {sg : Scope} {g CS : Addr} {cdg : Value} {j j2 : Nat} {p1 p2 p3 p4 p5 p6 p7 p8 p9 p10 : Pos} (hge : sg.names.lookup e = some .globalImplicit) (hme : X.mg e = some (.ref CS)) (hde : (e == ("__debug__" : Str)) = false) (h0 : ∀ f : Addr, (L2.start Ng [V.ref f])[0]? = some (some (V.ref f))) :
    LamX.GivesTo X Ng x sg g cdg [.Try [.Expr (.Call (.Name a p1) [] [] p2) p3] [.ExceptHandler (some (.Name e p4)) none [.Return (some (.Constant (.bool true) j p5)) p6] p7] [] [] p8, .Return (some (.Constant (.bool false) j2 p9)) p10] a qq (TTref X.K CS) := by
  intro f c' s H Q tl act hc h
  have hgl : Gl (cxOf C8.CX0 X.prog X.w X.K X.mg X.base Ng x sg g cdg X.A X.stack s H C8.E0).nox e := hge
  refine ⟨_, pss_cons (ps_try_only (X := (cxOf C8.CX0 X.prog X.w X.K X.mg X.base Ng x sg g cdg X.A X.stack s H C8.E0).nox) (c := .ref CS)
      (tb := fun W D σ H => ∃ Ech : XK, (∀ cls d σ' H', Ech cls d H' → W cls d σ' H') ∧ σ[0]? = some (some (.ref f)) ∧ H c' = some (LamX.CodeO c' qq) ∧ tl Ech H fun _ H' => D.nx σ H')
      rfl rfl ⟨hgl, hde, .inl hme⟩ LamX.takes0 (fun W pn xe tk _ => ?_) (fun a oe cls d pn _ _ => pss_one (ps_ret pe_bl))) (pss_one (ps_ret pe_bl)), ?_⟩
  · refine ⟨fun pins s' σ H' D I h' => ?_⟩
    obtain ⟨Ech, hW, h1, h2, h3⟩ := h'
    have hp := act W pn xe Ech p1 p2 tk hW
    have hq := pss_one (ps_expr (pos := p3) hp)
    exact hq.run pins s' σ H' D I ⟨h1, h2, h3⟩
  · exact ⟨fun cls _ H' => ∃ b, PySem.W.exmOne X.K cls (.ref CS) = some b ∧ (b = true → Q (.bl true) H') ∧ (b = false → False), fun cls d σ' H' ⟨b, e1, e2, e3⟩ => ⟨b, e1, fun hb a _ => e2 hb, fun hb => e3 hb⟩, h0 f, hc, h⟩
theorem s_refd {gi : Nat} {x a e : Str} {pg params : Arguments} {sg scope : Scope} {g CS c Pt : Addr} {fd : FuncData} {Ng : List Str} {j j2 k : Nat} {p1 p2 p3 p4 p5 p6 p7 p8 p9 p10 lp cp lpos : Pos} {sa : Sx E} {body : Expr}
    (FD : FunD X.K x x pg [.Try [.Expr (.Call (.Name a p1) [] [] p2) p3] [.ExceptHandler (some (.Name e p4)) none [.Return (some (.Constant (.bool true) j p5)) p6] p7] [] [] p8, .Return (some (.Constant (.bool false) j2 p9)) p10] sg [] [] g fd)
    (hb : L2.Binds X.K fd [a] []) (hg : Gl X x) (hm : X.mg x = some (.ref g)) (Sg : FnScope Ng [a] sg) (hNg : Ng[0]? = some a) (hva : Vis sg a) (hge : sg.names.lookup e = some .globalImplicit) (hme : X.mg e = some (.ref CS)) (hde : (e == ("__debug__" : Str)) = false)
    (h0 : ∀ f : Addr, (L2.start Ng [V.ref f])[0]? = some (some (V.ref f))) (hrf : ∀ cc, P.rf gi cc = true → PySem.W.exmOne X.K (q.xc cc) (.ref CS) = some true)
    (TB : LamX.TabB X.base X.mg c Pt) (hcode : X.env.code = .ref c) (hmT : (Pt, X.env.qual ++ "<lambda>") ∈ q.T) (hu : ∀ p ∈ q.T, p.1 = Pt → p.2 = X.env.qual ++ "<lambda>") (hr : Room (k + 2) X.A) (L : LamX.LamS X.env.scope scope) (hdef : defaultsOf params X.env = ([], []))
    (hbind : ∀ (q : Str) (cl : List (Str × Addr)) (pm cv ctv : Value), bindArgs (PySem.W.kla_fn "<lambda>" q params body scope cl pm cv ctv) ⟨[], []⟩ = pure [])
    (hdb : (x == ("__debug__" : Str)) = false) (hd : (a == ("__debug__" : Str)) = false) (hcd : (a == ("__classdict__" : Str)) = false)
    (hB : ∀ (A : Around) (outer : List Env) (s : Shared) (H : Hp) (E : XK) (f c' : Addr), Room k (A.deeper (LamX.lamEnv X scope s.heap.objs.size f c')) → SE (LamX.lamCx X A outer s H E scope f c') q (fun cls d _ H' => E cls d H') sa body) :
    SE X q W (sRefd P gi sa) (.Call (.Name x cp) [.Lambda params body scope lpos] [] lp) := by
  intro ρ G σ H m Q ME M F
  obtain ⟨oc, od, dV, kV, doc, pm, an, cdv, ct, osl, rfl, lk, hcg, _, _⟩ := FD.ex
  refine ⟨_, LamX.pe_lamcall (T := q.T) (TT := TTref X.K CS) (k := k) (t := fun E σ H Q => ∀ A outer s H0 f c', Room k (A.deeper (LamX.lamEnv X scope s.heap.objs.size f c')) → wE (LamX.lamCx X A outer s H0 E scope f c') body σ H Q) hg hm FD.kp lk hcg hb Sg hNg hva (refd_gives hge hme hde h0) TB hcode hmT hu hr L hdef hbind
    (fun A outer s H E f c' hr2 => ⟨fun pins s' σ H Q I h => by
      obtain ⟨t, ht, q⟩ := h A outer s _ f c' hr2
      exact ht.run pins s' σ H Q I q⟩) hdb hd hcd, ?_⟩
  refine ⟨M.tab, fun H1 eN T1 => ?_⟩
  intro A outer s H0 f c' hr2
  have e1 : Ext m H m H1 := by
    refine ⟨fun _ _ h => h, fun a o h ht _ => eN a o h ht, fun a xs h => eN a _ h (fun ps z => nomatch z), fun _ _ h => .inl h, fun a h => ?_⟩
    cases q1 : H a with
    | none => exact .inl q1
    | some o =>
      cases o with
      | tbl ps => exact .inr ⟨ps, q1⟩
      | _ => exact (h.no (eN a _ q1 fun ps z => nomatch z) fun ps z => nomatch z).elim
  have M1 : MtG (dW X q) m H1 G := ⟨M.dom, M.cod, M.inj, (fun n o a h1 h2 => by
    have ob := M.obj n o a h1 h2
    obtain ⟨u, hu1, hu2⟩ := ob.at0
    refine ob.tr (fun _ _ z => z) e1.tups ?_
    rw [hu1]
    exact eN a u hu1 (fun ps z => by subst z; cases hu2)), T1⟩
  refine hB A outer s H0 _ f c' hr2 ρ G σ H1 m _ (ME.ext e1) M1 ?_
  unfold sRefd at F
  cases qs : sa ρ G with
  | bad => rw [qs] at F; exact F
  | ok v G1 =>
    rw [qs] at F
    exact fun m2 v2 H2 e2 M2 _ => F m2 (.bl false) H2 (e1.trans e2) M2 (.bl false)
  | ex cc G1 =>
    rw [qs] at F
    cases hc : P.rf gi cc with
    | false => simp only [hc] at F; exact F.elim
    | true =>
      simp only [hc] at F
      exact fun m2 H2 d e2 M2 => ⟨true, hrf cc hc, fun _ => F m2 (.bl true) H2 (e1.trans e2) M2 (.bl true), (fun z => nomatch z)⟩
end
end Lt
end
section
set_option Elab.async false
set_option linter.all false
set_option maxRecDepth 100000
/-! Lt: soundness of statements. -/
namespace Lt
open PySem PySem.Spec PyProof.Rows L2
section
variable (D : Wd) (W : WX)
def FinS (m : Mp) (H : Hp) (r : RS) (E : Ends) : Prop := match r with
  | .nx ρ G => ∀ m' σ' H', Ext m H m' H' → MtG D m' H' G → MtE D.K m' H' ρ σ' → E.nx σ' H'
  | .rt v G => ∀ m' v' H', Ext m H m' H' → MtG D m' H' G → RV D.K m' H' v v' → E.rt v' H'
  | .bk ρ G => ∀ m' σ' H', Ext m H m' H' → MtG D m' H' G → MtE D.K m' H' ρ σ' → E.bk σ' H'
  | .ct ρ G => ∀ m' σ' H', Ext m H m' H' → MtG D m' H' G → MtE D.K m' H' ρ σ' → E.ct σ' H'
  | .ex c ρ G => ∀ m' σ' H' d, Ext m H m' H' → MtG D m' H' G → MtE D.K m' H' ρ σ' → W (D.xc c) d σ' H'
  | .bad => False
end
section
variable {D : Wd} {W : WX} {m m' : Mp} {H H' : Hp}
theorem FinS.ext {r : RS} {E : Ends} (h : FinS D W m H r E) (e : Ext m H m' H') : FinS D W m' H' r E := by
  cases r with
  | nx ρ G => exact fun m2 σ2 H2 e2 M N => h m2 σ2 H2 (e.trans e2) M N
  | rt v G => exact fun m2 σ2 H2 e2 M N => h m2 σ2 H2 (e.trans e2) M N
  | bk ρ G => exact fun m2 σ2 H2 e2 M N => h m2 σ2 H2 (e.trans e2) M N
  | ct ρ G => exact fun m2 σ2 H2 e2 M N => h m2 σ2 H2 (e.trans e2) M N
  | ex c ρ G => exact fun m2 σ2 H2 d e2 M N => h m2 σ2 H2 d (e.trans e2) M N
  | bad => exact h
theorem FinS.bind {α β : Type} {r : R α} {ρ : Ro} {f : α → Hq → RS} {E : Ends} {σ : L2.St} {rel : Mp → Hp → α → β → Prop} {Q : β → Hp → Prop} (h : FinS D W m H (r.st ρ f) E) (ME : MtE D.K m H ρ σ)
    (k : ∀ v G' m' v' H', r = .ok v G' → Ext m H m' H' → MtG D m' H' G' → rel m' H' v v' → FinS D W m' H' (f v G') E → Q v' H') : Fin D W σ m H r rel Q := by
  cases r with
  | ok v G => exact fun m2 v2 H2 e2 M r => k v G m2 v2 H2 rfl e2 M r (FinS.ext (show FinS D W m H (f v G) E from h) e2)
  | ex c G => exact fun m2 H2 d e2 M => h m2 σ H2 d e2 M (ME.ext e2)
  | bad => exact h
end
section
variable {X : Cx} {q : Wq} {W : WX} {P : Par}
/-- what statements need of a context -/
structure CxS (X : Cx) (W : WX) : Prop extends CxG X W where
  po : PassesOwn (model X.prog X.w) X.A X.env X.xe
def wS (X : Cx) (st : Stmt) : TS := fun D σ H => ∃ t, PS X st t ∧ t D σ H
def wSs (X : Cx) (st : List Stmt) : TS := fun D σ H => ∃ t, PSs X st t ∧ t D σ H
theorem ps_w {st : Stmt} : PS X st (wS X st) := ⟨fun pins s σ H D I ⟨t, h, q⟩ => h.run pins s σ H D I q⟩
theorem pss_w {st : List Stmt} : PSs X st (wSs X st) := ⟨fun pins s σ H D I ⟨t, h, q⟩ => h.run pins s σ H D I q⟩
def SS (X : Cx) (q : Wq) (W : WX) (s : Ss) (st : Stmt) : Prop := ∀ (ρ : Ro) (G : Hq) (σ : L2.St) (H : Hp) (m : Mp) (E : Ends), MtE X.K m H ρ σ → MtG (dW X q) m H G → FinS (dW X q) W m H (s ρ G) E → wS X st E σ H
def SSs (X : Cx) (q : Wq) (W : WX) (s : Ss) (st : List Stmt) : Prop := ∀ (ρ : Ro) (G : Hq) (σ : L2.St) (H : Hp) (m : Mp) (E : Ends), MtE X.K m H ρ σ → MtG (dW X q) m H G → FinS (dW X q) W m H (s ρ G) E → wSs X st E σ H
theorem ss_nil : SSs X q W (fun ρ G => .nx ρ G) [] := fun ρ G σ H m E ME M F => ⟨_, pss_nil, F m σ H (Ext.refl m H) M ME⟩
theorem ss_cons {s u : Ss} {st : Stmt} {r : List Stmt} (ha : SS X q W s st) (hr : SSs X q W u r) : SSs X q W (fun ρ G => (s ρ G).seq u) (st :: r) := by
  intro ρ G σ H m E ME M F
  refine ⟨_, pss_cons ps_w pss_w, ?_⟩
  refine ha ρ G σ H m _ ME M ?_
  cases qs : s ρ G with
  | nx ρ1 G1 =>
    simp only [qs, RS.seq_nx] at F
    exact fun m2 σ2 H2 e2 M2 N2 => hr ρ1 G1 σ2 H2 m2 E N2 M2 (FinS.ext F e2)
  | rt v G1 => simp only [qs, RS.seq_rt] at F; exact F
  | bk ρ1 G1 => simp only [qs, RS.seq_bk] at F; exact F
  | ct ρ1 G1 => simp only [qs, RS.seq_ct] at F; exact F
  | ex c ρ1 G1 => simp only [qs, RS.seq_ex] at F; exact F
  | bad => simp only [qs, RS.seq_bad] at F; exact F
/-! ### stores -/
theorem q_asg {t : Tg} {s : Sx E} {e : Expr} {p : Pos} (C : CxG X W) (hnm : ∀ n ∈ t.nms, NmOk X n) (hs : swapsWithSole [t.py] e p.line X.env = pure false) (hw : swappedStores [t.py] e X.env = pure none) (ha : SE X q W s e) : SS X q W (qAsg t s) (.Assign [t.py] e p) := by
  intro ρ G σ H m E ME M F
  refine ⟨_, ps_asg pe_w (pg_tg C.calm C.nd hnm) hs hw (by cases t <;> rfl), ?_⟩
  refine ha ρ G σ H m _ ME M (FinS.bind F ME fun v G1 m1 v' H1 _ e1 M1 r1 F1 => ?_)
  cases hset : t.set v ρ with
  | none => simp only [hset] at F1; exact F1.elim
  | some ρ1 =>
    simp only [hset] at F1
    exact tg_ok hset r1 (ME.ext e1) fun σ1 N1 _ => F1 m1 σ1 H1 (Ext.refl m1 H1) M1 N1
theorem q_set {n : Nm} {s : Sx E} {e : Expr} {p : Pos} (C : CxG X W) (hn : NmOk X n) (hs : swapsWith e (some n.py) p.line X.env = pure false) (ha : SE X q W s e) : SS X q W (qAsg (.name n) s) (.Assign [n.py] e p) := by
  intro ρ G σ H m E ME M F
  refine ⟨_, ps_set C.nd hn.1 hn.2.1 pe_w hs hn.2.2, ?_⟩
  refine ha ρ G σ H m _ ME M (FinS.bind F ME fun v G1 m1 v' H1 _ e1 M1 r1 F1 => ?_)
  exact F1 m1 _ H1 (Ext.refl m1 H1) M1 ((ME.ext e1).set r1)
theorem q_par {a b : Nm} {s u : Sx E} {e f : Expr} {k1 k2 : Nat} {p1 p2 p : Pos} (C : CxG X W) (ha1 : X.N[a.i]? = some a.x) (hb1 : X.N[b.i]? = some b.x) (hij : a.i ≠ b.i) (ha2 : X.env.scope.names.lookup a.x = some .local) (hb2 : X.env.scope.names.lookup b.x = some .local)
    (hw : swappedStores [.Tuple [a.py, b.py] k1 p1] (.Tuple [e, f] k2 p2) X.env = pure (some [a.x, b.x])) (h1 : starEach [e, f] X.env = (false, eval e X.env) :: starEach [f] X.env) (h2 : starEach [f] X.env = (false, eval f X.env) :: starEach [] X.env)
    (ha : SE X q W s e) (hb : SE X q W u f) : SS X q W (qPar a.i b.i s u) (.Assign [.Tuple [a.py, b.py] k1 p1] (.Tuple [e, f] k2 p2) p) := by
  intro ρ G σ H m E ME M F
  refine ⟨_, ps_par C.calm C.nd ha1 hb1 hij ha2 hb2 (pa_cons pe_w (pa_cons pe_w pa_nil h2) h1) hw (by rfl), ?_⟩
  refine ha ρ G σ H m _ ME M (FinS.bind F ME fun v G1 m1 v' H1 _ e1 M1 r1 F1 => ?_)
  refine hb ρ G1 σ H1 m1 _ (ME.ext e1) M1 (FinS.bind F1 (ME.ext e1) fun w G2 m2 w' H2 _ e2 M2 r2 F2 => ?_)
  exact ⟨v', w', rfl, F2 m2 _ H2 (Ext.refl m2 H2) M2 ((((ME.ext e1).ext e2).set (r1.ext e2)).set r2)⟩
theorem st_fin {σ : L2.St} {m : Mp} {H : Hp} {r : R LH} {E : Ends} {ρ : Ro} {i : Nat} (ME : MtE X.K m H ρ σ)
    (F : FinS (dW X q) W m H ((r.bind fun x G1 => match x with | .tmp xs => R.ok (Lt.E.ref G1.length) (G1 ++ [.lst xs]) | .pl _ => .bad).st ρ fun v G1 => .nx (ρ.set i (some v)) G1) E) : Fin (dW X q) W σ m H r (RLn X.K H) (fun v H1 => E.nx (σ.set i (some v)) H1) := by
  cases r with
  | bad => exact F
  | ex c G => exact fun m2 H2 d e2 M => F m2 σ H2 d e2 M (ME.ext e2)
  | ok x G1 =>
    intro m1 x' H1 e1 M1 r1
    cases x with
    | pl n => exact F.elim
    | tmp xs =>
      obtain ⟨⟨a, vs, rfl, h, rs, hn⟩, h0⟩ := r1
      obtain ⟨b, e, h0⟩ := h0 _ rfl
      cases e
      refine F (Mp.add m1 G1.length a) _ H1 ?_ (M1.add hn ⟨vs, h, rs.tr (Mp.add_mono M1) fun _ _ z => z⟩) ?_
      · refine ⟨fun n b h => Mp.add_mono M1 n b (e1.mono n b h), e1.stay, e1.tups, fun n b h => ?_, e1.there⟩
        unfold Mp.add at h
        split at h
        · cases h; exact .inr h0
        · exact e1.new n b h
      · refine MtE.set (i := i) (e := Lt.E.ref G1.length) (v := .ref a) ?_ (.ref Mp.add_self)
        exact ⟨ME.1, fun j y hy => let ⟨w, h1, h2⟩ := ME.2 j y hy; ⟨w, h1, (h2.ext e1).tr (Mp.add_mono M1) fun _ _ z => z⟩⟩
/-- y = [..], on one line -/
theorem q_setLc {n : Nm} {it : Sx (List E × Option Nat)} {c : Sx Bool} {e : Sx E} {t : Tg} {elt iter : Expr} {ifs : List Expr} {scope : Scope} {own : List (Str × Nat)} {p sp : Pos} (C : CxG X W) (hn : X.N[n.i]? = some n.x) (hnl : X.env.scope.names.lookup n.x = some .local)
    (hsw : swapsWith (.ListComp elt [⟨t.py, iter, ifs, 0⟩] scope p) (some n.py) sp.line X.env = pure true) (ok : BlkOk X.N X.env.scope scope own)
    (hi : SI X q W t.py it iter) (hnm : ∀ s H C cl fp, ∀ n ∈ t.nms, NmOk (blk X s H scope C cl fp) n) (hsl : ∀ n ∈ t.nms, n.i ∈ own.map (·.2))
    (hc : ∀ s H C cl fp, Snd (dW X q) W0 c RB (wTs (blk X s H scope C cl fp) ifs)) (he : ∀ s H C cl fp, SE (blk X s H scope C cl fp) q W0 e elt) (hs : ∀ x, foldedSetIterable iter X.env x = pure x) :
    SS X q W (qAsg (.name n) (sNew (sLc it t c e (own.map (·.2))))) (.Assign [n.py] (.ListComp elt [⟨t.py, iter, ifs, 0⟩] scope p) sp) := fun ρ G σ H m E ME M F =>
  ⟨_, ps_setLc C.calm C.nd hn hnl hsw pi_w ok (fun s H0 C0 cl fp => pg_tg (X := blk X s H0 scope C0 cl fp) C.calm C.nd (hnm s H0 C0 cl fp)) bT_ok bE_ok hs, lc_rd hi hsl hc he ME M (st_fin ME F)⟩
/-! ### x op= e -/
theorem iop_of {o : BOp} {x y z : E} {m : Mp} {H : Hp} {x' y' : V} {Q : VK} (rx : RV X.K m H x x') (ry : RV X.K m H y y') (h : augop o x y = some z) (k : ∀ z', RV X.K m H z z' → Q z' H) : ∃ r, OpR X (inplaceOp o.py) r ∧ r x' y' H Q := by
  cases o with
  | add =>
    cases rx with
    | int i => cases ry <;> first | (cases h; exact ⟨_, iop_add, _, _, rfl, rfl, k _ (.int _)⟩) | cases h
    | str a =>
      cases ry with
      | str b =>
        simp only [augop] at h
        split at h
        · rename_i hl; cases h; exact ⟨_, iop_add_str, a, b, rfl, rfl, hl, k _ (.str _)⟩
        · cases h
      | _ => cases h
    | _ => cases h
  | sub =>
    cases rx with
    | int i => cases ry <;> first | (cases h; exact ⟨_, iop_sub, _, _, rfl, rfl, k _ (.int _)⟩) | cases h
    | _ => cases h
  | mul =>
    cases rx with
    | int i =>
      cases ry with
      | int j =>
        simp only [augop] at h
        split at h
        · rename_i hl; cases h; exact ⟨_, iop_mul, i, j, rfl, rfl, cmul_of hl, k _ (.int _)⟩
        · cases h
      | _ => cases h
    | _ => cases h
  | fdiv =>
    cases rx with
    | int i =>
      cases ry with
      | int j =>
        simp only [augop] at h
        split at h
        · rename_i hl; cases h; exact ⟨_, iop_fdiv, i, j, rfl, rfl, hl, k _ (.int _)⟩
        · cases h
      | _ => cases h
    | _ => cases h
  | mod =>
    cases rx with
    | int i =>
      cases ry with
      | int j =>
        simp only [augop] at h
        split at h
        · rename_i hl; cases h; exact ⟨_, iop_mod, i, j, rfl, rfl, hl, k _ (.int _)⟩
        · cases h
      | _ => cases h
    | _ => cases h
def wIp (X : Cx) (op : Operator) : TIp := fun x y H Q => ∃ r, OpR X (inplaceOp op) r ∧ r x y H Q
theorem pip_w {op : Operator} : PIp X op (wIp X op) := fun pins s σ H x y v u Q I rx ry ⟨r, h, q⟩ => h pins s σ H x y v u Q I rx ry q
theorem q_aug {o : BOp} {n : Nm} {s : Sx E} {e : Expr} {p : Pos} (C : CxG X W) (hn : NmOk X n) (ha : SE X q W s e) : SS X q W (qAug o n.i s) (.AugAssign n.py o.py e p) := by
  intro ρ G σ H m E ME M F
  refine ⟨_, ps_aug C.nd hn.1 hn.2.1 pe_w pip_w hn.2.2, ?_⟩
  unfold qAug at F
  cases qs : ρ[n.i]? with
  | none => rw [qs] at F; exact F.elim
  | some o1 =>
    cases o1 with
    | none => rw [qs] at F; exact F.elim
    | some x =>
      rw [qs] at F
      obtain ⟨v, h1, h2⟩ := ME.2 n.i x qs
      refine ⟨v, h1, ?_⟩
      refine ha ρ G σ H m _ ME M (FinS.bind F ME fun y G1 m1 y' H1 _ e1 M1 r1 F1 => ?_)
      cases hz : augop o x y with
      | none => simp only [hz] at F1; exact F1.elim
      | some z =>
        simp only [hz] at F1
        exact iop_of (h2.ext e1) r1 hz fun z' r => F1 m1 _ H1 (Ext.refl m1 H1) M1 ((ME.ext e1).set r)
/-! ### d[k] = e, l.append(e), an expression -/
theorem q_expr {s : Sx E} {e : Expr} {p : Pos} (hs : swapsWith e none p.line X.env = pure false) (ha : SE X q W s e) : SS X q W (qExpr s) (.Expr e p) := by
  intro ρ G σ H m E ME M F
  refine ⟨_, ps_expr pe_w hs, ?_⟩
  exact ha ρ G σ H m _ ME M (FinS.bind F ME fun v G1 m1 v' H1 _ e1 M1 r1 F1 => F1 m1 σ H1 (Ext.refl m1 H1) M1 (ME.ext e1))
theorem valAny {kvs : List (Str × E)} {vs : List (Key × V)} {K : PySem.W.Frag} {m : Mp} {H : Hp} {k : Str} (r : RKs K m H kvs vs) : (vs.any fun kv => decide (kv.1 = Sum.inr k)) = kvs.any fun kv => decide (kv.1 = k) := by
  induction kvs generalizing vs with
  | nil => cases r; rfl
  | cons a t ih =>
    cases r with
    | @cons x _ _ v vs r rs =>
      rw [List.any_cons, List.any_cons, ih rs]
      congr 1
      by_cases e : x = k
      · subst e; simp
      · rw [decide_eq_false e]
        exact decide_eq_false fun z => e (Sum.inr.inj z)
theorem RKs.put1 {K : PySem.W.Frag} {m : Mp} {H : Hp} {k : Str} {e : E} {v : V} (rv : RV K m H e v) : ∀ {kvs : List (Str × E)} {vs : List (Key × V)}, RKs K m H kvs vs → RKs K m H (kvs.map fun kv => if kv.1 = k then (kv.1, e) else kv) (vs.map fun kv => if kv.1 = Sum.inr k then (kv.1, v) else kv)
  | [], _, .nil => .nil
  | (x, e0) :: t, (_, v0) :: vs, .cons r rs => by
    rw [List.map_cons, List.map_cons]
    by_cases hx : x = k
    · subst hx
      rw [if_pos rfl, if_pos rfl]
      exact .cons rv (RKs.put1 rv rs)
    · rw [if_neg hx, if_neg fun z => hx (Sum.inr.inj z)]
      exact .cons r (RKs.put1 rv rs)
theorem RKs.put2 {K : PySem.W.Frag} {m : Mp} {H : Hp} {k : Str} {e : E} {v : V} (rv : RV K m H e v) : ∀ {kvs : List (Str × E)} {vs : List (Key × V)}, RKs K m H kvs vs → RKs K m H (kvs ++ [(k, e)]) (vs ++ [(.inr k, v)])
  | [], _, .nil => .cons rv .nil
  | (x, e0) :: t, (_, v0) :: vs, .cons r rs => .cons r (RKs.put2 rv rs)
theorem RKs.put {kvs : List (Str × E)} {vs : List (Key × V)} {K : PySem.W.Frag} {m : Mp} {H : Hp} {k : Str} {e : E} {v : V} (r : RKs K m H kvs vs) (rv : RV K m H e v) : RKs K m H (putS kvs k e) (putK vs (Sum.inr k) v) := by
  unfold putS putK
  rw [valAny r]
  split
  · exact RKs.put1 rv r
  · exact RKs.put2 rv r
theorem RKs.length {kvs : List (Str × E)} {vs : List (Key × V)} {K : PySem.W.Frag} {m : Mp} {H : Hp} (r : RKs K m H kvs vs) : kvs.length = vs.length := by
  induction kvs generalizing vs with
  | nil => cases r; rfl
  | cons a t ih =>
    cases r with
    | cons r rs => rw [List.length_cons, List.length_cons, ih rs]
theorem q_setD {so sk se : Sx E} {o k e : Expr} {p1 p : Pos} (hu : X.A.units + 100 < cLine) (hs : swapsWith e (some (.Subscript o k p1)) p.line X.env = pure false) (ho : SE X q W so o) (hk : SE X q W sk k) (he : SE X q W se e) : SS X q W (qSetD so sk se) (.Assign [.Subscript o k p1] e p) := by
  intro ρ G σ H m E ME M F
  refine ⟨_, ps_dput (by omega) pe_w pe_w pe_w hs, ?_⟩
  refine he ρ G σ H m _ ME M (FinS.bind F ME fun v G1 m1 v' H1 _ e1 M1 r1 F1 => ?_)
  refine ho ρ G1 σ H1 m1 _ (ME.ext e1) M1 (FinS.bind F1 (ME.ext e1) fun x G2 m2 x' H2 _ e2 M2 r2 F2 => ?_)
  refine hk ρ G2 σ H2 m2 _ ((ME.ext e1).ext e2) M2 (FinS.bind F2 ((ME.ext e1).ext e2) fun y G3 m3 y' H3 _ e3 M3 r3 F3 => ?_)
  have N3 := ((ME.ext e1).ext e2).ext e3
  have r1' := (r1.ext e2).ext e3
  cases r2 with
  | @ref n a hn =>
    have hn3 := e3.mono n a hn
    cases r3 with
    | str z =>
      cases hg : G3[n]? with
      | none => simp only [hg] at F3; exact F3.elim
      | some ob =>
        have obr := M3.obj n ob a hg hn3
        cases ob with
        | dct kvs =>
          simp only [hg] at F3
          split at F3
          · rename_i hl
            obtain ⟨vs, h1, r⟩ := obr
            have ee : Ext m3 H3 m3 (upd H3 a (.dK (putK vs (Sum.inr z) v'))) := Ext.put M3 hg hn3 fun ps z => nomatch z
            refine ⟨a, _, rfl, DPut.k (k := .inr z) h1 (by rw [← r.length]; exact hl), F3 m3 σ _ ee (M3.put hg hn3 ⟨_, upd_same, (r.put r1').ext ee⟩) (N3.ext ee)⟩
          · exact F3.elim
        | _ => simp only [hg] at F3; exact F3.elim
    | _ => exact F3.elim
  | _ => exact F3.elim
theorem q_app {so se : Sx E} {o e : Expr} {p1 p2 p : Pos} (hbase : attributeBase o "append" X.env (eval o X.env) = eval o X.env)
    (hfew : ((backTo p2 (starEach [e] X.env)).all (fun x => !x.1) && (backToKw p2 (keywordEach [] X.env)).all (fun x => x.1.isSome)
      && decide ([e].length + ([] : List Keyword).length + (if ([] : List Keyword).isEmpty then 0 else 1) < 30)) = true)
    (hl : (p1.endLine == p2.line) = true) (hs : starEach [e] X.env = [(false, eval e X.env)]) (ho : SE X q W so o) (he : SE X q W se e) : SS X q W (qApp so se) (.Expr (.Call (.Attribute o "append" p1) [e] [] p2) p) := by
  intro ρ G σ H m E ME M F
  refine ⟨_, ps_expr (pe_bm PySem.F.plainAttrs_list PySem.F.slot_list_append PySem.F.type_list_append mt_append pe_w (pa_cons pe_w pa_nil hs) hbase hfew hl hs (by rfl)) (by rfl), ?_⟩
  refine ho ρ G σ H m _ ME M (FinS.bind F ME fun x G1 m1 x' H1 _ e1 M1 r1 F1 => ?_)
  cases r1 with
  | @ref n a hn =>
    simp only at F1
    split at F1
    · rename_i hsome
      obtain ⟨ys, hys⟩ := Option.isSome_iff_exists.mp hsome
      obtain ⟨b, vs0, eb, sq0, _⟩ := RL.get (X := X) (q := q) (l := .pl n) ⟨a, rfl, hn⟩ M1 hys
      cases eb
      refine ⟨.inl ⟨rfl, _, sq0⟩, ?_⟩
      refine he ρ G1 σ H1 m1 _ (ME.ext e1) M1 (FinS.bind F1 (ME.ext e1) fun v G2 m2 v' H2 _ e2 M2 r2 F2 => ?_)
      have hn2 := e2.mono n a hn
      cases hg : G2[n]? with
      | none => simp only [hg] at F2; exact F2.elim
      | some ob =>
        have obr := M2.obj n ob a hg hn2
        cases ob with
        | lst xs =>
          simp only [hg] at F2
          split at F2
          · rename_i hlen
            obtain ⟨vs, h1, r⟩ := obr
            have ee : Ext m2 H2 m2 (upd H2 a (.lst (vs ++ [v']))) := Ext.put M2 hg hn2 fun ps z => nomatch z
            exact ⟨a, vs, v', rfl, rfl, h1, by rw [← r.length]; exact hlen, F2 m2 σ _ ee (M2.put hg hn2 ⟨_, upd_same, (r.append (.cons r2 .nil)).ext ee⟩) (((ME.ext e1).ext e2).ext ee)⟩
          · exact F2.elim
        | _ => simp only [hg] at F2; exact F2.elim
    · exact F1.elim
  | _ => exact F1.elim
end
end Lt
end
section
set_option Elab.async false
set_option linter.all false
set_option maxRecDepth 100000
/-! Lt: soundness of statements: branches, loops, ends. -/
namespace Lt
open PySem PySem.Spec PyProof.Rows L2
section
variable {X : Cx} {q : Wq} {W : WX} {P : Par}
theorem q_if {s : Sx Bool} {u v : Ss} {c : Expr} {a b : List Stmt} {p : Pos} (hc : ST X q W s c) (ha : SSs X q W u a) (hb : SSs X q W v b) : SS X q W (qIf s u v) (.If c a b p) := by
  intro ρ G σ H m E ME M F
  refine ⟨_, ps_if pt_w pss_w pss_w, ?_⟩
  refine hc ρ G σ H m _ ME M (FinS.bind F ME fun x G1 m1 x' H1 _ e1 M1 r1 F1 => ?_)
  cases r1
  cases x with
  | true => exact ha ρ G1 σ H1 m1 E (ME.ext e1) M1 F1
  | false => exact hb ρ G1 σ H1 m1 E (ME.ext e1) M1 F1
theorem q_ret {s : Sx E} {e : Expr} {p : Pos} (ha : SE X q W s e) : SS X q W (qRet s) (.Return (some e) p) := by
  intro ρ G σ H m E ME M F
  refine ⟨_, ps_ret pe_w, ?_⟩
  exact ha ρ G σ H m _ ME M (FinS.bind F ME fun v G1 m1 v' H1 _ e1 M1 r1 F1 => F1 m1 v' H1 (Ext.refl m1 H1) M1 r1)
theorem q_retN {p : Pos} : SS X q W (fun _ G => .rt .non G) (.Return none p) := fun ρ G σ H m E ME M F => ⟨_, ps_retN, F m .non H (Ext.refl m H) M .non⟩
theorem q_pas {p : Pos} : SS X q W (fun ρ G => .nx ρ G) (.Pass p) := fun ρ G σ H m E ME M F => ⟨_, ps_pass, F m σ H (Ext.refl m H) M ME⟩
theorem q_brk {p : Pos} : SS X q W (fun ρ G => .bk ρ G) (.Break p) := fun ρ G σ H m E ME M F => ⟨_, ps_break, F m σ H (Ext.refl m H) M ME⟩
theorem q_cont {p : Pos} : SS X q W (fun ρ G => .ct ρ G) (.Continue p) := fun ρ G σ H m E ME M F => ⟨_, ps_continue, F m σ H (Ext.refl m H) M ME⟩
theorem q_rais {c : Nat} {e : Expr} {p : Pos} (C : CxG X W) (hm : PMk X e (fun _ H Q => Q (q.xc c) none H)) : SS X q W (fun ρ G => .ex c ρ G) (.Raise (some e) none p) := fun ρ G σ H m E ME M F =>
  ⟨_, ps_raise C.calm C.tk hm, F m σ H none (Ext.refl m H) M ME⟩
/-! ### while -/
theorem q_whil {s : Sx Bool} {b : Ss} {c : Expr} {bs : List Stmt} {p : Pos} (C : CxS X W) (n : Nat) (hc : ST X q W s c) (hb : SSs X q W b bs) : SS X q W (whilS s b n) (.While c bs [] p) := by
  intro ρ G σ H m E ME M F
  refine ⟨_, ps_while C.po pt_w pss_w, ?_⟩
  refine ⟨fun k σ' H' => ∃ ρ' G' m', MtE X.K m' H' ρ' σ' ∧ MtG (dW X q) m' H' G' ∧ FinS (dW X q) W m' H' (whilS s b k ρ' G') E, ⟨n, ρ, G, m, ME, M, F⟩, ?_⟩
  rintro k σ1 H1 ⟨ρ1, G1, m1, N1, M1, F1⟩
  cases k with
  | zero => exact F1.elim
  | succ k =>
    unfold whilS at F1
    refine hc ρ1 G1 σ1 H1 m1 _ N1 M1 (FinS.bind F1 N1 fun x G2 m2 x' H2 _ e2 M2 r2 F2 => ?_)
    cases r2
    cases x with
    | false => exact F2 m2 σ1 H2 (Ext.refl m2 H2) M2 (N1.ext e2)
    | true =>
      rw [if_pos rfl] at F2 ⊢
      refine ⟨fun σ' H' => ∃ ρ' G' m', MtE X.K m' H' ρ' σ' ∧ MtG (dW X q) m' H' G' ∧ FinS (dW X q) W m' H' (whilS s b k ρ' G') E, fun σ' H' h => ⟨k, Nat.lt_succ_self k, h⟩, ?_⟩
      refine hb ρ1 G2 σ1 H2 m2 _ (N1.ext e2) M2 ?_
      cases hr : b ρ1 G2 with
      | nx ρ3 G3 => rw [hr] at F2; exact fun m3 σ3 H3 e3 M3 N3 => ⟨ρ3, G3, m3, N3, M3, FinS.ext F2 e3⟩
      | ct ρ3 G3 => rw [hr] at F2; exact fun m3 σ3 H3 e3 M3 N3 => ⟨ρ3, G3, m3, N3, M3, FinS.ext F2 e3⟩
      | bk ρ3 G3 => rw [hr] at F2; exact F2
      | rt v G3 => rw [hr] at F2; exact F2
      | ex c ρ3 G3 => rw [hr] at F2; exact F2
      | bad => rw [hr] at F2; exact F2
/-! ### for -/
/-- the state at a turn -/
def ForAt (D : Wd) (W : WX) (m1 : Mp) (H1 : Hp) (st : Option Nat) (all : List E) (t : Tg) (b : Ss) (E : Ends) (i : Nat) (σ : L2.St) (H : Hp) : Prop :=
  ∃ m' ρ' G', Ext m1 H1 m' H ∧ MtG D m' H G' ∧ MtE D.K m' H ρ' σ ∧ FinS D W m' H (forS st all t b (all.drop i) ρ' G') E
theorem forS_stays {D : Wd} {m : Mp} {H : Hp} {st : Option Nat} {all r : List E} {t : Tg} {b : Ss} {ρ : Ro} {G : Hq} {E : Ends} (h : FinS D W m H (forS st all t b r ρ G) E) : staysB st all G = true := by
  cases hs : staysB st all G with
  | true => rfl
  | false =>
    cases r with
    | nil => unfold forS at h; rw [hs] at h; exact h.elim
    | cons x r => unfold forS at h; rw [hs] at h; exact h.elim
theorem q_for {it : Sx (List E × Option Nat)} {b : Ss} {t : Tg} {iter : Expr} {bs : List Stmt} {p : Pos} (C : CxS X W) (hi : SI X q W t.py it iter) (hnm : ∀ n ∈ t.nms, NmOk X n) (hb : SSs X q W b bs)
    (hs : ∀ x, foldedSetIterable iter X.env x = pure x) : SS X q W (qFor t it b) (.For t.py iter bs [] p) := by
  intro ρ G σ H m E ME M F
  refine ⟨_, ps_for C.po C.calm pi_w (pg_tg C.calm C.nd hnm) pss_w hs, ?_⟩
  refine hi ρ G σ H m _ ME M (FinS.bind F ME fun xs G1 m1 J H1 _ e1 M1 r1 F1 => ?_)
  obtain ⟨Gd, Y, w, hG, hY⟩ := r1
  refine for_it (g := gTg X.K t) (tb := wSs X bs) (D := E) (σ := σ) (H := H1) w (Pv := ForAt (dW X q) W m1 H1 xs.2 xs.1 t b E) ?_ ?_ ?_ ?_
  · exact ⟨m1, ρ, G1, Ext.refl m1 H1, M1, ME.ext e1, by rw [List.drop_zero]; exact F1⟩
  · rintro i σ' H' _ ⟨m', ρ', G', h1, h2, h3, h4⟩
    exact hG m' H' G' h1 h2 (staysB_of (forS_stays h4))
  · rintro i x σ2 H2 H3 hi2 ⟨m', ρ', G', x1, x2, x3, x4⟩ hy
    have hst := forS_stays x4
    obtain ⟨rfl, y, hy1, hy2⟩ := hY m' H2 G' i x H3 hi2 x1 x2 (staysB_of hst) hy
    have hd : xs.1.drop i = y :: xs.1.drop (i + 1) := by
      obtain ⟨hl, he⟩ := List.getElem?_eq_some_iff.mp hy1
      rw [List.drop_eq_getElem_cons hl, he]
    rw [hd] at x4
    unfold forS at x4
    rw [hst, if_pos rfl] at x4
    cases hset : t.set y ρ' with
    | none => simp only [hset] at x4; exact x4.elim
    | some ρ1 =>
      simp only [hset] at x4
      refine tg_ok hset hy2 x3 fun σ1 N1 _ => ?_
      refine hb ρ1 G' σ1 H3 m' _ N1 x2 ?_
      cases hr : b ρ1 G' with
      | nx ρ3 G3 => rw [hr] at x4; exact fun m3 σ3 H4 e3 M3 N3 => ⟨m3, ρ3, G3, x1.trans e3, M3, N3, FinS.ext x4 e3⟩
      | ct ρ3 G3 => rw [hr] at x4; exact fun m3 σ3 H4 e3 M3 N3 => ⟨m3, ρ3, G3, x1.trans e3, M3, N3, FinS.ext x4 e3⟩
      | bk ρ3 G3 => rw [hr] at x4; exact x4
      | rt v G3 => rw [hr] at x4; exact x4
      | ex c ρ3 G3 => rw [hr] at x4; exact x4
      | bad => rw [hr] at x4; exact x4
  · rintro σ' H' ⟨m', ρ', G', x1, x2, x3, x4⟩
    rw [List.drop_length] at x4
    have hst := forS_stays x4
    unfold forS at x4
    rw [hst, if_pos rfl] at x4
    exact x4 m' σ' H' (Ext.refl m' H') x2 x3
end
end Lt
end
section
set_option Elab.async false
set_option linter.all false
set_option maxRecDepth 100000
/-! Lt: what is checked of a program of the small language; the soundness of all that passes. -/
namespace Lt
open PySem PySem.Spec PyProof.Rows L2

/-! ### the check -/
structure Sg where
  N : List Str
  gn : Nat → Option Str
  fn : Nat → Option (Str × Nat)
  rn : Nat → Option Str
  xn : Nat → Option Str
def visB (sc : Scope) (x : Str) : Bool := match sc.names.lookup x with
  | some .local => true
  | some .cell => true
  | some .free => true
  | _ => false
def glB (sc : Scope) (x : Str) : Bool := match sc.names.lookup x with
  | some .globalImplicit => true
  | _ => false
def ndB (x : Str) : Bool := !(x == ("__debug__" : Str)) && !(x == ("__classdict__" : Str))
def nmL (S : Sg) (sc : Scope) (n : Nm) : Bool := decide (S.N[n.i]? = some n.x) && (match sc.names.lookup n.x with
  | some .local => true
  | _ => false)
def nmS (S : Sg) (sc : Scope) (n : Nm) : Bool := decide (S.N[n.i]? = some n.x) && (match sc.names.lookup n.x with
  | some .local => true
  | some .cell => true
  | _ => false)
def Exs.len : Exs → Nat
  | .nil => 0
  | .cons _ r => r.len + 1
/-- a receiver -/
def recv : Ex → Bool
  | .var _ _ _ => true
  | .glb _ _ _ => true
  | .str _ _ _ => true
  | .sub _ _ _ => true
  | _ => false
def notE : Lx → Bool
  | .ofE _ => false
  | _ => true
def flat : Ex → Bool
  | .new _ => false
  | _ => true
mutual
def okE (S : Sg) (lm : Bool) (sc : Scope) : Ex → Bool
  | .var i x _ => decide (S.N[i]? = some x) && visB sc x && ndB x
  | .glb j x _ => decide (S.gn j = some x) && glB sc x && ndB x
  | .int _ _ _ => true
  | .bl _ _ _ => true
  | .non _ _ => true
  | .str _ _ _ => true
  | .bin _ a b _ => okE S lm sc a && okE S lm sc b
  | .cmp _ a b _ => okE S lm sc a && okE S lm sc b
  | .isN a _ _ _ => okE S lm sc a
  | .ntN a _ _ _ => okE S lm sc a
  | .not a _ => okE S lm sc a
  | .and es _ => okBs S lm sc es
  | .or es _ => okBs S lm sc es
  | .ifx c a b _ => okT S lm sc c && okE S lm sc a && okE S lm sc b
  | .tup es _ _ => okA S lm sc es
  | .sub a i _ => okE S lm sc a && okE S lm sc i && flat i
  | .slice a lo hi _ _ => okE S lm sc a && okO S lm sc lo && okO S lm sc hi
  | .call f x es _ _ => (match S.fn f with
    | some (y, n) => decide (y = x) && decide (es.len = n)
    | none => false) && decide (0 < es.len) && glB sc x && okA S lm sc es
  | .bi1 b a _ _ => glB sc b.name && okE S lm sc a
  | .biL b l _ _ => glB sc b.name && okL S lm sc l
  | .isi a t _ _ _ => glB sc "isinstance" && glB sc t.name && okE S lm sc a
  | .inS a b _ => okE S lm sc a && okE S lm sc b && flat b
  | .sidx a b p1 p => okE S lm sc a && okE S lm sc b && recv a && (p1.endLine == p.line)
  | .join a l p1 p => okE S lm sc a && okL S lm sc l && recv a && (p1.endLine == p.line)
  | .subL l i _ => okL S lm sc l && okE S lm sc i && flat i
  | .new l => okL S lm sc l && notE l
  | .dct ks es _ => decide (ks.length = es.len) && decide ((ks.map (·.1)) ≠ []) && decide (ks.length ≤ 15) && decide (ks.map (·.1)).Nodup && okA S lm sc es
  | .lenSet a _ _ _ _ => glB sc "len" && glB sc "set" && okE S lm sc a
  | .neL a b _ => okL S lm sc a && okL S lm sc b
  | .refd g x e sc2 _ _ _ => lm && decide (S.rn g = some x) && glB sc x && LamX.lamSB sc sc2 && okE S false sc2 e
def okT (S : Sg) (lm : Bool) (sc : Scope) : Ex → Bool
  | .cmp _ a b _ => okE S lm sc a && okE S lm sc b
  | .isN a _ _ _ => okE S lm sc a
  | .ntN a _ _ _ => okE S lm sc a
  | .not a _ => okT S lm sc a
  | .and es _ => okTs S lm sc es
  | .or es _ => okTs S lm sc es
  | .var i x p => decide (S.N[i]? = some x) && visB sc x && ndB x
  | .bl _ _ _ => true
  | .sub a i _ => okE S lm sc a && okE S lm sc i && flat i
  | .call f x es _ _ => (match S.fn f with
    | some (y, n) => decide (y = x) && decide (es.len = n)
    | none => false) && decide (0 < es.len) && glB sc x && okA S lm sc es
  | .biL b l _ _ => glB sc b.name && okL S lm sc l
  | .isi a t _ _ _ => glB sc "isinstance" && glB sc t.name && okE S lm sc a
  | .refd g x e sc2 _ _ _ => lm && decide (S.rn g = some x) && glB sc x && LamX.lamSB sc sc2 && okE S false sc2 e
  | .inS a b _ => okE S lm sc a && okE S lm sc b && flat b
  | .neL a b _ => okL S lm sc a && okL S lm sc b
  | _ => false
def okA (S : Sg) (lm : Bool) (sc : Scope) : Exs → Bool
  | .nil => true
  | .cons e r => okE S lm sc e && okA S lm sc r
def okBs (S : Sg) (lm : Bool) (sc : Scope) : Exs → Bool
  | .nil => false
  | .cons e .nil => okE S lm sc e
  | .cons e r => okE S lm sc e && okBs S lm sc r
def okTs (S : Sg) (lm : Bool) (sc : Scope) : Exs → Bool
  | .nil => false
  | .cons e .nil => okT S lm sc e
  | .cons e r => okT S lm sc e && okTs S lm sc r
def okO (S : Sg) (lm : Bool) (sc : Scope) : Ox → Bool
  | .none => true
  | .some e => okE S lm sc e
def okOT (S : Sg) (lm : Bool) (sc : Scope) : Ox → Bool
  | .none => true
  | .some e => okT S lm sc e
def okL (S : Sg) (lm : Bool) (sc : Scope) : Lx → Bool
  | .ofE e => okE S lm sc e && flat e
  | .disp es _ => okA S lm sc es
  | .cat a b _ => okL S lm sc a && okL S lm sc b
  | .listS a _ _ => glB sc "list" && okE S lm sc a
  | .sortS a _ _ => glB sc "sorted" && okE S lm sc a
  | .lc e t it c sc2 own _ => okI S lm sc it && blkC S.N sc sc2 own && (t.nms.all fun n => nmL S (relS sc2 sc) n && decide (n.i ∈ own.map (·.2))) && okOT S false (relS sc2 sc) c && okE S false (relS sc2 sc) e
def okI (S : Sg) (lm : Bool) (sc : Scope) : It → Bool
  | .l l => okL S lm sc l
  | .a e => okE S lm sc e && flat e
  | .r1 a _ _ => glB sc "range" && okE S lm sc a
  | .r2 a b _ _ => glB sc "range" && okE S lm sc a && okE S lm sc b
end
/-! ### forms -/
def starOk : Ex → Bool
  | .new l => notE l
  | _ => true
theorem star_ex {e : Ex} (h : starOk e = true) (r : List Expr) (env : Env) : starEach (e.py :: r) env = (false, eval e.py env) :: starEach r env := by
  cases e with
  | new l =>
    cases l with
    | ofE e => cases h
    | _ => rfl
  | _ => rfl
theorem ok_star {S : Sg} {lm : Bool} {sc : Scope} {e : Ex} (h : okE S lm sc e = true) : starOk e = true := by
  cases e with
  | new l =>
    unfold okE at h
    rw [Bool.and_eq_true] at h
    exact h.2
  | _ => rfl
theorem flat_star {e : Ex} (h : flat e = true) : starOk e = true := by
  cases e <;> first | rfl | cases h
theorem star_lx {S : Sg} {lm : Bool} {sc : Scope} {l : Lx} (h : okL S lm sc l = true) (r : List Expr) (env : Env) : starEach (l.py :: r) env = (false, eval l.py env) :: starEach r env := by
  cases l with
  | ofE e =>
    unfold okL at h
    rw [Bool.and_eq_true] at h
    exact star_ex (flat_star h.2) r env
  | _ => rfl
theorem flat_ix {e : Ex} (h : flat e = true) : PlainIx e.py := by
  cases e <;> first | (intro o i; rfl) | cases h
theorem flat_in {e : Ex} (h : flat e = true) : behindInMarks .In e.py = false := by
  cases e <;> first | rfl | cases h
theorem flat_sw {e : Ex} (h : flat e = true) (t : Option Expr) (l : Nat) (env : Env) : swapsWith e.py t l env = pure false := by
  cases e <;> first | rfl | cases h
theorem flat_st {e : Ex} (h : flat e = true) (env : Env) (x : Value) : foldedSetIterable e.py env x = pure x := by
  cases e <;> first | rfl | cases h
theorem recv_base {e : Ex} (h : recv e = true) (a : Str) (env : Env) : attributeBase e.py a env (eval e.py env) = eval e.py env := by
  cases e <;> first | rfl | cases h
theorem evs_len {P : Par} : ∀ (es : Exs) (ρ : Ro) (G G' : Hq) (xs : List E), es.ev P ρ G = .ok xs G' → xs.length = es.len
  | .nil, ρ, G, G', xs, h => by
    unfold Exs.ev sNil at h
    cases h; rfl
  | .cons e r, ρ, G, G', xs, h => by
    unfold Exs.ev sCons at h
    cases q1 : e.ev P ρ G with
    | bad => rw [q1] at h; cases h
    | ex c G1 => rw [q1] at h; cases h
    | ok x G1 =>
      rw [q1] at h
      simp only [R.bind_ok] at h
      cases q2 : r.ev P ρ G1 with
      | bad => rw [q2] at h; cases h
      | ex c G2 => rw [q2] at h; cases h
      | ok ys G2 =>
        rw [q2] at h
        cases h
        rw [List.length_cons, evs_len r ρ G1 _ ys q2]
        rfl
theorem pys_len : ∀ es : Exs, es.py.length = es.len
  | .nil => rfl
  | .cons e r => by
    show (e.py :: r.py).length = _
    rw [List.length_cons, pys_len r]; rfl
/-! ### the context -/
def bltN : List Str := ["len", "abs", "int", "tuple", "all", "isinstance", "str", "range", "set", "list", "sorted"]
/-- what is known of a def that tries what it is given -/
def RefF (K : PySem.W.Frag) (mg : Str → Option Value) (q : Wq) (rf : Nat → Nat → Bool) (g : Nat) (x : Str) : Prop :=
  ∃ (a e : Str) (pg : Arguments) (sg : Scope) (gA CS : Addr) (fd : FuncData) (Ng : List Str) (j j2 : Nat) (p1 p2 p3 p4 p5 p6 p7 p8 p9 p10 : Pos),
    FunD K x x pg [.Try [.Expr (.Call (.Name a p1) [] [] p2) p3] [.ExceptHandler (some (.Name e p4)) none [.Return (some (.Constant (.bool true) j p5)) p6] p7] [] [] p8, .Return (some (.Constant (.bool false) j2 p9)) p10] sg [] [] gA fd ∧
    L2.Binds K fd [a] [] ∧ mg x = some (.ref gA) ∧ FnScope Ng [a] sg ∧ Ng[0]? = some a ∧ Vis sg a ∧ sg.names.lookup e = some .globalImplicit ∧ mg e = some (.ref CS) ∧ (e == ("__debug__" : Str)) = false ∧
    (∀ f : Addr, (L2.start Ng [V.ref f])[0]? = some (some (V.ref f))) ∧ (∀ cc, rf g cc = true → PySem.W.exmOne K (q.xc cc) (.ref CS) = some true) ∧
    (x == ("__debug__" : Str)) = false ∧ (a == ("__debug__" : Str)) = false ∧ (a == ("__classdict__" : Str)) = false
abbrev RefFor (X : Cx) (q : Wq) (P : Par) (g : Nat) (x : Str) : Prop := RefF X.K X.mg q P.rf g x
/-- a def that makes lambdas -/
def LamFor (X : Cx) (q : Wq) (P : Par) (S : Sg) (k : Nat) : Prop := Room (k + 2) X.A ∧ (∃ c Pt, LamX.TabB X.base X.mg c Pt ∧ X.env.code = .ref c ∧ (Pt, X.env.qual ++ "<lambda>") ∈ q.T ∧ ∀ p ∈ q.T, p.1 = Pt → p.2 = X.env.qual ++ "<lambda>") ∧
  ∀ g x, S.rn g = some x → RefFor X q P g x
structure CxF (X : Cx) (q : Wq) (W : WX) (P : Par) (S : Sg) (sc : Scope) (k : Nat) (lm : Bool) : Prop extends CxG X W where
  N : X.N = S.N
  sc : X.env.scope = sc
  rm : Room k X.A
  bn : ∀ x ∈ bltN, X.mg x = none
  gv : ∀ j v x, P.gl j = some v → S.gn j = some x → ∃ u v', X.mg x = some u ∧ RelV v' u ∧ ∀ m H, RV X.K m H v v'
  fv : ∀ f x n, S.fn f = some (x, n) → ∃ a fd ps, X.mg x = some (.ref a) ∧ PySem.W.keepIn X.K (.ref a) = true ∧ L2.Binds X.K fd ps [] ∧ ps.length = n ∧ (x == ("__debug__" : Str)) = false ∧ FnOk X.prog X.w X.K X.mg X.base (CX X.prog X.w) k a fd ps (spF X.K q P f n)
  lv : lm = true → LamFor X q P S k
section
variable {X : Cx} {q : Wq} {W : WX} {P : Par} {S : Sg} {sc : Scope} {k : Nat} {lm : Bool}
theorem visB_of {x : Str} (h : visB sc x = true) : Vis sc x := by
  unfold visB at h
  split at h
  · rename_i e; exact .inl e
  · rename_i e; exact .inr (.inl e)
  · rename_i e; exact .inr (.inr e)
  · cases h
theorem CxF.gl (C : CxF X q W P S sc k lm) {x : Str} (h : glB sc x = true) : Gl X x := by
  unfold glB at h
  split at h
  · rename_i e
    show X.env.scope.names.lookup x = _
    rw [C.sc]; exact e
  · cases h
theorem CxF.blk (C : CxF X q W P S sc k lm) (s : Shared) (H : Hp) (scope : Scope) (C0 : Addr) (cl : List (Str × Addr)) (fp : List Addr) : CxF (blk X s H scope C0 cl fp) q W0 P S (relS scope sc) k false where
  calm := C.calm
  nd := C.nd
  tk := LamX.takes0
  un := C.un
  N := C.N
  sc := by
    show relabel scope X.env = _
    rw [← C.sc]
    rfl
  rm := C.rm
  bn := C.bn
  gv := C.gv
  fv := C.fv
  lv := fun z => nomatch z
theorem CxF.lam (C : CxF X q W P S sc k lm) (A : Around) (outer : List Env) (s : Shared) (H : Hp) (E : XK) (scope : Scope) (f c' : Addr) (hr : Room k (A.deeper (LamX.lamEnv X scope s.heap.objs.size f c'))) : CxF (LamX.lamCx X A outer s H E scope f c') q (fun cls d _ H' => E cls d H') P S scope k false where
  calm := rfl
  nd := C.nd
  tk := takes_of rfl rfl rfl rfl
  un := by have := hr.un; show (A.deeper _).units + 100 < cLine; omega
  N := C.N
  sc := rfl
  rm := hr
  bn := C.bn
  gv := C.gv
  fv := C.fv
  lv := fun z => nomatch z
theorem nmL_ok (C : CxF X q W P S sc k lm) {n : Nm} (h : nmL S sc n = true) : NmOk X n := by
  unfold nmL at h
  rw [Bool.and_eq_true, decide_eq_true_eq] at h
  obtain ⟨h1, h2⟩ := h
  have h3 : X.env.scope.names.lookup n.x = some .local := by
    rw [C.sc]
    split at h2
    · assumption
    · cases h2
  exact ⟨by rw [C.N]; exact h1, .inl h3, .inr h3⟩
end
end Lt
end
section
set_option Elab.async false
set_option linter.all false
set_option maxRecDepth 100000
/-! Lt: soundness of list(text), sorted(text), len(set(text)), lists that are compared. -/
namespace Lt
open PySem PySem.Spec PyProof.Rows L2
section
variable {X : Cx} {q : Wq} {W : WX}
theorem neL_op {xs ys : List E} {b : Bool} {m : Mp} {H : Hp} {a a' : Addr} {vs ws : List V} {Q : VK} (hu : X.A.units + 100 < cLine) (h : neLE xs ys = some b) (s1 : SqL X.K H a vs) (r1 : RVs X.K m H xs vs) (s2 : SqL X.K H a' ws) (r2 : RVs X.K m H ys ws) (k : Q (.bl b) H) :
    wOp X (compareOp .NotEq) (.ref a) (.ref a') H Q := by
  unfold neLE at h
  cases qx : E.dats xs with
  | none => rw [qx] at h; cases h
  | some d =>
    cases qy : E.dats ys with
    | none => rw [qx, qy] at h; cases h
    | some e =>
      rw [qx, qy] at h
      simp only at h
      split at h
      · rename_i hd
        cases h
        have hm : X.A.units + min (PyData.depth (.list d)) (PyData.depth (.list e)) < cLine := by
          have h1 : min (PyData.depth (.list d)) (PyData.depth (.list e)) ≤ PyData.depth (.list d) := Nat.min_le_left _ _
          have h2 : min (PyData.depth (.list d)) (PyData.depth (.list e)) ≤ PyData.depth (.list e) := Nat.min_le_right _ _
          omega
        have p1 : PyData.plain (.list d) = true := by unfold PyData.plain; exact E.dats_plain qx
        have p2 : PyData.plain (.list e) = true := by unfold PyData.plain; exact E.dats_plain qy
        refine ⟨fun u v H' Q => u = .ref a ∧ v = .ref a' ∧ H' = H ∧ Q (.bl (!(PyData.eqv (.list d) (.list e)))) H, fun pins s σ H' u v uu vv Q I ru rv h => ?_, rfl, rfl, rfl, k⟩
        obtain ⟨rfl, rfl, rfl, q⟩ := h
        obtain ⟨as, g1⟩ := Dp.reads I (.list d) _ uu (.lst s1 (r1.dp qx)) ru
        obtain ⟨bs, g2⟩ := Dp.reads I (.list e) _ vv (.lst s2 (r2.dp qy)) rv
        exact SeqAt.ne_plain g1 g2 p1 p2 hm ⟨.bl _, _, I, rfl, q⟩
      · cases h
theorem st_neL {sa sb : Sx LH} {a b : Expr} {p : Pos} (hu : X.A.units + 100 < cLine) (ha : SL X q W sa a) (hb : SL X q W sb b) : ST X q W (sNeL sa sb) (.Compare a [.NotEq] [b] p) := by
  intro ρ G σ H m Q ME M F
  refine ⟨_, pt_cmpR op_w pe_w pe_w (nomark b), ?_⟩
  refine ha ρ G σ H m _ ME M (F.bind fun x G1 m1 x' H1 _ e1 M1 r1 F1 => ?_)
  refine hb ρ G1 σ H1 m1 _ (ME.ext e1) M1 (F1.bind fun y G2 m2 y' H2 _ e2 M2 r2 F2 => ?_)
  cases qx : x.get G2 with
  | none => rw [qx] at F2; exact F2.elim
  | some xs =>
    cases qy : y.get G2 with
    | none => rw [qx, qy] at F2; exact F2.elim
    | some ys =>
      rw [qx, qy] at F2
      obtain ⟨b, hb, F2⟩ := optR_fin F2
      obtain ⟨a1, vs, rfl, s1, q1⟩ := RL.get (RL.ext r1.1 e2) M2 qx
      obtain ⟨a2, ws, rfl, s2, q2⟩ := RL.get r2.1 M2 qy
      exact neL_op hu hb s1 q1 s2 q2 ⟨b, rfl, Fin.here F2 M2 rfl⟩
theorem s_neL {sa sb : Sx LH} {a b : Expr} {p : Pos} (hu : X.A.units + 100 < cLine) (ha : SL X q W sa a) (hb : SL X q W sb b) : SE X q W (sBl (sNeL sa sb)) (.Compare a [.NotEq] [b] p) := by
  intro ρ G σ H m Q ME M F
  refine ⟨_, pe_cmpR op_w pe_w pe_w (nomark b), ?_⟩
  unfold sBl sNeL at F
  rw [R.bind_assoc] at F
  refine ha ρ G σ H m _ ME M (F.bind fun x G1 m1 x' H1 _ e1 M1 r1 F1 => ?_)
  rw [R.bind_assoc] at F1
  refine hb ρ G1 σ H1 m1 _ (ME.ext e1) M1 (F1.bind fun y G2 m2 y' H2 _ e2 M2 r2 F2 => ?_)
  cases qx : x.get G2 with
  | none => rw [qx] at F2; exact F2.elim
  | some xs =>
    cases qy : y.get G2 with
    | none => rw [qx, qy] at F2; exact F2.elim
    | some ys =>
      rw [qx, qy] at F2
      simp only [optR_some, R.bind_ok] at F2
      cases hz : neLE xs ys with
      | none => rw [hz] at F2; exact F2.elim
      | some b =>
        rw [hz] at F2
        obtain ⟨a1, vs, rfl, s1, q1⟩ := RL.get (RL.ext r1.1 e2) M2 qx
        obtain ⟨a2, ws, rfl, s2, q2⟩ := RL.get r2.1 M2 qy
        exact neL_op hu hz s1 q1 s2 q2 (Fin.here F2 M2 (.bl b))
/-! ### the signs of a text, as a list -/
theorem vals_signs {z : Str} {acc : Array Value} (h : PySem.ItemsOf (PySem.SignAt z) acc z.cps.size) : Vals (z.cps.toList.map fun c => V.str ⟨#[c]⟩) acc.toList := by
  obtain ⟨h1, h2⟩ := h
  have key : ∀ (l : List Nat) (vs : List Value), vs.length = l.length → (∀ (j : Nat) (v : Value), vs[j]? = some v → ∃ (c : Nat) (u : Tok), l[j]? = some c ∧ v = Value.str ⟨#[c]⟩ u) → Vals (l.map fun c => V.str ⟨#[c]⟩) vs := by
    intro l
    induction l with
    | nil =>
      intro vs hl _
      have : vs = [] := List.eq_nil_of_length_eq_zero hl
      subst this
      exact .nil
    | cons c l ih =>
      intro vs hl hv
      cases vs with
      | nil => cases hl
      | cons v vs =>
        obtain ⟨c', u, e1, rfl⟩ := hv 0 v rfl
        cases e1
        exact .cons ⟨u, rfl⟩ (ih vs (by simpa using hl) fun j v h => by
          obtain ⟨c, u, e1, e2⟩ := hv (j + 1) v (by simpa using h)
          exact ⟨c, u, by simpa using e1, e2⟩)
  refine key _ _ (by simp [h1]) fun j v hj => ?_
  obtain ⟨c, u, e1, e2⟩ := h2 j v (by simpa using hj)
  exact ⟨c, u, by simpa using e1, e2⟩
def vsigns (z : Str) : List V := z.cps.toList.map fun c => V.str ⟨#[c]⟩
theorem rv_vsigns {K : PySem.W.Frag} {m : Mp} {H : Hp} (z : Str) : RVs K m H (signs z) (vsigns z) := rv_signs _
theorem len_cps (z : Str) : z.cps.size = z.length := rfl
theorem cr_listS (hc : X.calm = true) : CallR X (.type "list") (fun xs H Q => ∃ z : Str, xs = [.str z] ∧ z.length ≤ 4000 ∧ ∀ p, H p = none → Q (.ref p) (upd H p (.lst (vsigns z)))) := by
  intro pins s σ H xs us Q I r h
  obtain ⟨z, rfl, hz, q⟩ := h
  cases r with
  | cons r1 r2 =>
    cases r2
    obtain ⟨t, rfl⟩ := r1
    have hl : sizeLine = 16777216 := sizeLine_eq
    refine PySem.call_list_str (I.ok.hd hc) z t (fun h' tk acc' c' kp hg hit => ?_) (by rw [len_cps]; omega)
    refine ⟨.ref s.heap.objs.size, _, I.laid (t' := tk) (o := .lst (vsigns z)) kp (Nat.le_refl _) ⟨?_, acc'.toList, c', vals_signs hit, by simpa using hg⟩, rfl, q _ (I.hok.fresh (Nat.le_refl _))⟩
    rw [vsigns, List.length_map, Array.length_toList, len_cps]
    omega
theorem rises_pw : ∀ {l : List Nat}, risesB l = true → l.Pairwise (· ≤ ·)
  | [], _ => .nil
  | [x], _ => List.pairwise_singleton _ _
  | x :: y :: r, h => by
    unfold risesB at h
    rw [Bool.and_eq_true, decide_eq_true_eq] at h
    have ih := rises_pw h.2
    refine .cons (fun z hz => ?_) ih
    rcases List.mem_cons.mp hz with e | hz
    · rw [e]; exact h.1
    · exact Nat.le_trans h.1 ((List.pairwise_cons.mp ih).1 z hz)
theorem cr_sortS (hc : X.calm = true) (hu : X.A.units + 100 < cLine) : CallR X (.builtin "sorted") (fun xs H Q => ∃ z : Str, xs = [.str z] ∧ z.length ≤ 4000 ∧ risesB z.cps.toList = true ∧ ∀ p, H p = none → Q (.ref p) (upd H p (.lst (vsigns z)))) := by
  intro pins s σ H xs us Q I r h
  obtain ⟨z, rfl, hz, hr, q⟩ := h
  cases r with
  | cons r1 r2 =>
    cases r2
    obtain ⟨t, rfl⟩ := r1
    have hl : sizeLine = 16777216 := sizeLine_eq
    refine Calls.call_function_entry kind_sorted plain_sorted entry_sorted (args_sorted1 _) ?_
    unfold Builtin.«sorted»
    refine wpAny_bind (m := checkCount "sorted" 1 1 _) (wpAny_pure ?_)
    refine wpAny_bind (PySem.wpAny_collect_str (A := X.A.in1) (show X.A.in1.handled = none from I.ok.hd hc) z t (fun s' acc kp hg hd ho hit => ?_) (by rw [len_cps]; omega))
    obtain ⟨h', g', d', tk', os'⟩ := s'
    simp only at kp hg hd ho
    subst hg hd ho
    have hacc : acc.toList.length ≤ sizeLine := by rw [Array.length_toList, hit.1, len_cps]; omega
    refine wpAny_bind (wpAny_newList ?_ hacc)
    have I1 : Inv X pins σ H { s with heap := h'.push { cls := .type "list", data := .seq acc.toList.toArray }, toks := tk' } := I.kept fun b o e => Heap.get?_push_of_some _ (kp b o e)
    have I0 : Inv X pins σ H { s with heap := h', toks := tk' } := I.kept kp
    have vs := vals_signs hit
    have each : ∀ (l : List Nat) (us : List Value), Vals (l.map fun c => V.str ⟨#[c]⟩) us → PySem.W.EachIs (fun v (b : Str) => ∃ t, v = Value.str b t) us (l.map fun c => (⟨#[c]⟩ : Str)) := by
      intro l
      induction l with
      | nil => intro us h; cases h; exact .nil
      | cons c l ih =>
        intro us h
        cases h with
        | cons r rr => exact .cons r (ih _ rr)
    have e1 := each _ _ vs
    have er : PySem.W.EachIs (fun v (b : Str) => ∃ as, Reads (h'.push { cls := .type "list", data := .seq acc.toList.toArray }) v (PyData.str b) as ∧ h'.objs.size ∉ as) acc.toList (z.cps.toList.map fun c => (⟨#[c]⟩ : Str)) := e1.mono fun v b ⟨t, e⟩ => ⟨[], by subst e; exact Reads.str _ _, by simp⟩
    have hal : PySem.W.AllAlike ((z.cps.toList.map fun c => (⟨#[c]⟩ : Str)).map fun b => PyData.str b) := fun d hd d' hd' => by
      obtain ⟨b, _, rfl⟩ := List.mem_map.mp hd
      obtain ⟨b', _, rfl⟩ := List.mem_map.mp hd'
      rfl
    have hk : PySem.W.Sortable ((z.cps.toList.map fun c => (⟨#[c]⟩ : Str)).map fun b => PyData.str b) := .inr fun d hd => by
      obtain ⟨b, _, rfl⟩ := List.mem_map.mp hd
      exact ⟨(fun z => nomatch z), (fun _ z => nomatch z)⟩
    refine wpAny_bind (wpAny_holding (PySem.W.list_sort_data (n := 0) (R := fun v b => ∃ t, v = Value.str b t) (Heap.get?_push_size _ rfl) e1 er hal hk (by rw [List.length_map, Array.length_toList, len_cps]; omega) (fun b _ => ?_) fun out hlen hout => ?_))
    · show X.A.units + 1 + 1 + 0 < cLine
      omega
    · refine wpAny_pure ⟨_, rfl, ?_⟩
      have hs : ((z.cps.toList.map fun c => (⟨#[c]⟩ : Str)).mergeSort (PySem.W.dataLe false fun b => PyData.str b)) = z.cps.toList.map fun c => (⟨#[c]⟩ : Str) := by
        refine List.mergeSort_of_pairwise ?_
        rw [PySem.W.dataLe_str]
        refine List.Pairwise.map _ (fun a b hab => ?_) (rises_pw hr)
        show decide ([a] ≤ [b]) = true
        rw [decide_eq_true_eq]
        by_cases e : a = b
        · subst e; exact List.le_refl _
        · exact List.le_of_lt (List.cons_lt_cons_iff.mpr (.inl (by omega)))
      rw [hs] at hout
      have back : ∀ (l : List Nat) (us : List Value), PySem.W.EachIs (fun v (b : Str) => ∃ t, v = Value.str b t) us (l.map fun c => (⟨#[c]⟩ : Str)) → Vals (l.map fun c => V.str ⟨#[c]⟩) us := by
        intro l
        induction l with
        | nil => intro us h; cases h; exact .nil
        | cons c l ih =>
          intro us h
          cases h with
          | cons r rr => exact .cons r (ih _ rr)
      have vo := back _ _ hout
      have hob : (h'.push { cls := .type "list", data := .seq acc.toList.toArray }).get? h'.objs.size = some (seqObj "list" acc.toList.toArray 0) := Heap.get?_push_size _ rfl
      obtain ⟨eF, heF⟩ := PyProof.Rows.sortedHeap_at (vs := acc.toList) (out := out.toArray) hob
      have kS : ∀ b o, s.heap.get? b = some o → (sortedHeap (h'.push { cls := .type "list", data := .seq acc.toList.toArray }) h'.objs.size acc.toList out.toArray).get? b = some o := fun b o e =>
        (PyProof.Rows.sortedHeap_old (fun z => absurd (Heap.lt_size (kp b o e)) (by rw [z]; exact Nat.lt_irrefl _)) (Heap.lt_size (Heap.get?_push_of_some _ (kp b o e)))).trans (Heap.get?_push_of_some _ (kp b o e))
      have hn0 : H h'.objs.size = none := I0.hok.fresh (Nat.le_refl _)
      have I2 : Inv X pins σ H { s with heap := sortedHeap (h'.push { cls := .type "list", data := .seq acc.toList.toArray }) h'.objs.size acc.toList out.toArray, toks := tk' } := I.kept (t' := tk') kS
      have I3 : Inv X pins σ (upd H h'.objs.size (.lst (vsigns z))) { s with heap := sortedHeap (h'.push { cls := .type "list", data := .seq acc.toList.toArray }) h'.objs.size acc.toList out.toArray, toks := tk' } :=
        I2.take (h' := sortedHeap (h'.push { cls := .type "list", data := .seq acc.toList.toArray }) h'.objs.size acc.toList out.toArray) (t' := tk') (fun b ob _ e => e) (I0.fpOk (Nat.le_refl _) hn0) ⟨by rw [vsigns, List.length_map, Array.length_toList, len_cps]; omega, out, eF, vo, heF⟩
      exact ⟨.ref h'.objs.size, _, I3, rfl, q _ hn0⟩
theorem l_listS {s : Sx E} {a : Expr} {p1 p : Pos} (C : CxG X W) (hg : Gl X "list") (hm : X.mg "list" = none) (hs : starEach [a] X.env = [(false, eval a X.env)]) (ha : SE X q W s a) : SL X q W (sListS s) (.Call (.Name "list" p1) [a] [] p) := by
  intro ρ G σ H m Q ME M F
  refine ⟨_, pe_callTy (T := "list") (cr_listS C.calm) hg hm rfl (pa_cons pe_w pa_nil hs) (he := hs), ?_⟩
  refine ha ρ G σ H m _ ME M (F.bind fun x G1 m1 x' H1 _ e1 M1 r1 F1 => ?_)
  cases r1 with
  | str z =>
    simp only at F1
    split at F1
    · rename_i hz
      exact ⟨z, rfl, hz, fun p hp => fin_tmp M1 F1 (rv_vsigns z) hp (e1.there _)⟩
    · exact F1.elim
  | _ => exact F1.elim
theorem l_sortS {s : Sx E} {a : Expr} {p1 p : Pos} (C : CxG X W) (hg : Gl X "sorted") (hm : X.mg "sorted" = none) (hs : starEach [a] X.env = [(false, eval a X.env)]) (ha : SE X q W s a) : SL X q W (sSortS s) (.Call (.Name "sorted" p1) [a] [] p) := by
  intro ρ G σ H m Q ME M F
  refine ⟨_, pe_callB (id := "sorted") (cr_sortS C.calm C.un) hg hm rfl (pa_cons pe_w pa_nil hs) (he := hs), ?_⟩
  refine ha ρ G σ H m _ ME M (F.bind fun x G1 m1 x' H1 _ e1 M1 r1 F1 => ?_)
  cases r1 with
  | str z =>
    simp only at F1
    split at F1
    · rename_i hz
      exact ⟨z, rfl, hz.1, hz.2, fun p hp => fin_tmp M1 F1 (rv_vsigns z) hp (e1.there _)⟩
    · exact F1.elim
  | _ => exact F1.elim
/-! ### len(set(text)) of a text whose signs are all other ones -/
def chars (z : Str) : List Str := z.cps.toList.map fun c => (⟨#[c]⟩ : Str)
section
variable {prog : Program} {w : World} {A : Around} {R : Result → Shared → Prop} {I : Addr} {fp wr : List Addr} {Gn : Array GenState → Array GenState → Prop} {n : Nat} {P : Nat → Value → Prop} {St : Nat → Shared → Prop}
theorem loopSet (Wk : WalksS prog w A.in1 I fp wr Gn n P St) (S : Addr) (hSf : S ∉ fp) (xs : List Str) (hsz : xs.length = n) (hn1 : n < 4090) (hnd : xs.Nodup)
    (hval : ∀ i v, P i v → ∃ t, v = .str (xs.getD i Str.empty) t) :
    ∀ (k i : Nat) (s : Shared), n - i = k → i ≤ n → St i s →
      s.heap.SetOf (PySem.strKind prog w) S (fun k' => (xs.take i).any (· == k')) i →
      (∀ s', Moved (S :: wr) Gn s s' → s'.heap.SetOf (PySem.strKind prog w) S (fun k' => (xs.take n).any (· == k')) n → R (.ok (.ret .none)) s') →
      codeAny (model prog w) A (.builtin "set.update.loop" ⟨[.ref S, .ref I], []⟩) R s := by
  have hSw : S ∉ wr := fun h => hSf (Wk.sub _ h)
  have hsub : ∀ b ∈ wr, b ∈ S :: wr := fun b hb => List.mem_cons_of_mem _ hb
  intro k
  induction k with
  | zero =>
    intro i s hk hi hst hS hR
    have hin : i = n := by omega
    subst hin
    refine codeAny_builtin PyProof.Rows.F.entry_set_update_loop ?_
    rw [Around.under_plainId PyProof.Rows.F.plain_set_update_loop _]
    show wpAny _ A.in1 (pyNext (.ref I) >>= _) _ _ s
    refine wpAny_bind (Wk.done s _ _ hst fun s' hm => ?_)
    show wpAny _ A.in1 (ret Value.none) _ _ s'
    exact wpAny_pure (hR s' (hm.mono hsub) (by
      obtain ⟨o, es, ep, t, ho, rest⟩ := hS
      exact ⟨o, es, ep, t, hm.heap S _ hSw ho, rest⟩))
  | succ k ih =>
    intro i s hk hi hst hS hR
    have hlt : i < n := by omega
    refine codeAny_builtin PyProof.Rows.F.entry_set_update_loop ?_
    rw [Around.under_plainId PyProof.Rows.F.plain_set_update_loop _]
    show wpAny _ A.in1 (pyNext (.ref I) >>= _) _ _ s
    refine wpAny_bind (Wk.item i s _ _ hlt hst fun v s' hP hst' hm => ?_)
    obtain ⟨t, rfl⟩ := hval i v hP
    have hS' : s'.heap.SetOf (PySem.strKind prog w) S (fun k' => (xs.take i).any (· == k')) i := by
      obtain ⟨o, es, ep, tb, ho, rest⟩ := hS
      exact ⟨o, es, ep, tb, hm.heap S _ hSw ho, rest⟩
    show wpAny _ A.in1 (holding [Value.str (xs.getD i Str.empty) t] (setAdd S (.str (xs.getD i Str.empty) t)) >>= _) _ _ s'
    refine wpAny_bind (wpAny_holding ?_)
    unfold setAdd
    refine wpAny_holding ?_
    refine wpAny_bind ((PySem.strKind prog w).pyHash (k := xs.getD i Str.empty) (strKind_is _ _ _ _) ?_)
    refine wpAny_setAddHashed_of (knd := PySem.strKind prog w) (s := { s' with toks := s'.toks + 1 }) (strKind_is _ _ _ _) rfl hS' (by unfold scanBound; omega) fun h' hsb hS2 => ?_
    have hi2 : i < xs.length := by omega
    have hx : xs.getD i Str.empty = xs[i] := by rw [List.getD_eq_getElem?_getD, List.getElem?_eq_getElem hi2]; rfl
    have hnew : ((xs.take i).any (· == xs.getD i Str.empty)) = false := by
      rw [List.any_eq_false]
      intro y hy e
      have e2 : y = xs[i] := by rw [← hx]; simpa using e
      obtain ⟨j, hj, e3⟩ := List.mem_iff_getElem.mp hy
      rw [List.length_take] at hj
      rw [List.getElem_take, e2] at e3
      exact List.pairwise_iff_getElem.mp hnd j i (by omega) hi2 (by omega) e3
    have hSi : h'.SetOf (PySem.strKind prog w) S (fun k' => (xs.take (i + 1)).any (· == k')) (i + 1) := by
      refine SetOf_congr hS2 (fun k' => ?_) (by rw [hnew]; rfl)
      rw [List.take_succ_eq_append_getElem hi2, List.any_append, hx]
      congr 1
      show decide (k' = xs[i]) = ((xs[i] == k') || false)
      rw [Bool.or_false]
      by_cases e : k' = xs[i]
      · subst e; simp
      · have hb : (xs[i] == k') = false := beq_eq_false_iff_ne.mpr fun h => e h.symm
        rw [hb, decide_eq_false e]
    refine wpAny_pure ⟨plainId_quiet PyProof.Rows.F.plain_set_update_loop _, ih (i + 1) _ (by omega) hlt (Wk.frame _ s' _ _ hst' (Nat.le_succ _) fun b hb o e => ?_) hSi fun s'' hm'' hS'' => ?_⟩
    · rw [hsb.2 b (fun h : b = S => hSf (by rw [← h]; exact hb))]; exact e
    · refine hR s'' (Moved.trans Wk.gtrans ((hm.mono hsub).then_heap (Nat.le_succ _) fun b o hb e => ?_) hm'') hS''
      rw [hsb.2 b (fun h : b = S => hb (by rw [h]; exact List.mem_cons_self))]; exact e
end
section
variable {prog : Program} {w : World} {A : Around} {E : Value → Shared → Prop} {s : Shared}
set_option maxHeartbeats 3200000 in
theorem call_set_str {z : Str} {t : Tok} {Q : Value → Shared → Prop} (hh : A.handled = none) (hz : z.length < 4000) (hnd : (chars z).Nodup)
    (h : ∀ (h' : Heap) (tk : Nat), h'.SetOf (PySem.strKind prog w) s.heap.objs.size (fun k' => ((chars z).take z.cps.size).any (· == k')) z.cps.size →
      (∀ b o, b < s.heap.objs.size → s.heap.get? b = some o → h'.get? b = some o) → Q (.ref s.heap.objs.size) { s with heap := h', toks := tk }) :
    wpAny (model prog w) A (call (.type "set") [.str z t]) Q E s := by
  obtain ⟨c, tl, hmro⟩ := PySem.F.called_set.mro
  have hmade := PySem.F.called_set.made
  have hsub := PySem.F.called_set.sub
  refine wpAny_call (codeAny_of_tree ?_)
  show wpAny _ _ (callAny (.type "set") _) _ _ _
  refine wpAny_pure ⟨Code.quiet_builtin _ (by decide +kernel), codeAny_builtin PySem.F.entry_type_call ?_⟩
  rw [Around.under_plain (weight_type_call_type "set" [.str z t] []) rfl]
  have h1 := PySem.F.called_set.notType
  have h2 := PySem.F.called_set.canCreate
  have hct := PySem.F.typeCall_set_1 (.str z t)
  repeat (any_goals (first | assumption | wp_step))

  refine codeAny_mono (code_set_new_1 (.str z t) (E := E) (Q₁ := fun obj s₁ => ∃ led : Bool, obj = .ref s.heap.objs.size ∧ s₁ = { s with heap := s.heap.push { cls := .type "set", dict := none, data := .set #[] 0 (.fresh 0 0 led) } }) fun led => ⟨led, rfl, rfl⟩) fun r s₁ hr => ?_
  cases r with
  | error e => exact hr
  | ok fl =>
    cases fl with
    | ret obj =>
      obtain ⟨led, rfl, rfl⟩ := hr
      have hS : (s.heap.push { cls := .type "set", dict := none, data := .set #[] 0 (.fresh 0 0 led) }).get? s.heap.objs.size = some { cls := .type "set", dict := none, data := .set #[] 0 (.fresh 0 0 led) } := Heap.get?_push_size _ rfl
      have hT : Shared.TypeIs { s with heap := s.heap.push { cls := .type "set", dict := none, data := .set #[] 0 (.fresh 0 0 led) } } (.ref s.heap.objs.size) "set" := ⟨_, hS, rfl⟩
      have hli := PySem.F.called_set.init.lookup
      have hbi := PySem.F.called_set.init.bind (.ref s.heap.objs.size)
      repeat (any_goals (first | assumption | wp_step))

      refine codeAny_mono (codeAny_call_builtin (R := wants (fun r s₂ => r = .none ∧ ∃ h' tk, s₂ = { s with heap := h', toks := tk } ∧
          h'.SetOf (PySem.strKind prog w) s.heap.objs.size (fun k' => ((chars z).take z.cps.size).any (· == k')) z.cps.size ∧
          (∀ b o, b < s.heap.objs.size → s.heap.get? b = some o → h'.get? b = some o)) E) PySem.F.called_set.init.plain PySem.F.entry_set_init (check_set_init_1 hT ?_)) fun r₂ s₂ hr₂ => ?_
      · have hsls := PySem.F.sub_str_set
        have hslf := PySem.F.sub_str_frozenset
        have hne : (Value.type "str" == Value.type "dict") = false := by decide
        unfold Builtin.«set.__init__» noKeywords Builtin.Frozenset.updateFrom
        generalize hPI : pyIter = PI
        wp_walk
        subst hPI

        refine PySem.wpAny_pyIter_str fun o St Wk hst => ?_
        refine wpAny_bind (wpAny_runValue ?_)
        have hh3 : A.in1.in1.in1.handled = none := by simp [hh]
        have hSf : s.heap.objs.size ∉ [(s.heap.push { cls := .type "set", dict := none, data := .set #[] 0 (.fresh 0 0 led) }).objs.size] := by
          rw [Heap.size_push]; simp only [List.mem_cons, List.mem_singleton, List.not_mem_nil, or_false]
          exact Nat.ne_of_lt (Nat.lt_succ_self _)
        have hval : ∀ (i : Nat) (v : Value), PySem.SignAt z i v → ∃ t, v = .str ((chars z).getD i Str.empty) t := fun i v ⟨c, u, e1, e2⟩ => by
          refine ⟨u, ?_⟩
          rw [e2, List.getD_eq_getElem?_getD, chars, List.getElem?_map, Array.getElem?_toList, e1]
          rfl
        refine loopSet ((Wk _ hh3).toS) s.heap.objs.size
          hSf (chars z) (by simp [chars]) (by rw [len_cps]; omega) hnd hval (z.cps.size - 0) 0 _ (by omega) (Nat.zero_le _)
          hst ?hS0 ?hR
        case hS0 =>
          have hget : ((s.heap.push { cls := .type "set", dict := none, data := .set #[] 0 (.fresh 0 0 led) }).push o).get? s.heap.objs.size
              = some { cls := .type "set", dict := none, data := .set #[] 0 (.fresh 0 0 led) } := Heap.get?_push_of_some _ hS
          exact PyProof.Rows.SetOf_congr ((PyProof.Rows.setObjOf_fresh (knd := PySem.strKind prog w) led).setOf hget (by unfold scanBound; omega)) (fun _ => rfl) rfl
        case hR =>
          intro s' hm hS'
          obtain ⟨h', g', d', tk', os'⟩ := s'
          have eg : g' = s.gens := hm.gens
          have ed : d' = s.drawn := hm.drawn
          have eo : os' = s.os := hm.os
          subst eg; subst ed; subst eo
          show wpAny _ _ _ _ _ _
          refine wpAny_pure ?_
          show wpAny _ _ (ret Value.none) _ _ _
          refine wpAny_pure ⟨rfl, h', tk', rfl, hS', fun b o' hb e => ?_⟩
          have hb1 : b ≠ s.heap.objs.size := Nat.ne_of_lt hb
          have hb2 : b ≠ (s.heap.push { cls := .type "set", dict := none, data := .set #[] 0 (.fresh 0 0 led) }).objs.size := by
            rw [Heap.size_push]; exact Nat.ne_of_lt (Nat.lt_succ_of_lt hb)
          exact hm.heap b o' (by simp only [List.mem_cons, List.mem_singleton, List.not_mem_nil, or_false, not_or]; exact ⟨hb1, hb2⟩) (Heap.get?_push_of_some _ (Heap.get?_push_of_some _ e))

      · cases r₂ with
        | error e => exact hr₂
        | ok fl₂ =>
          cases fl₂ with
          | ret r =>
            obtain ⟨rfl, h', tk, rfl, hS', hk'⟩ := hr₂
            repeat (any_goals (first | assumption | wp_step))
            exact h _ _ hS' hk'
          | _ => exact hr₂.elim
    | _ => exact hr.elim
end
def tLenStr (ta : TE) : TE := fun σ H Q => ta σ H fun x H1 => ∃ z : Str, x = .str z ∧ z.length < 4000 ∧ (chars z).Nodup ∧ Q (.int z.length) H1
theorem pe_lenStr {a : Expr} {ta : TE} {p p2 q pos : Pos} (hc : X.calm = true) (hg : Gl X "len") (hm : X.mg "len" = none) (hg2 : Gl X "set") (hm2 : X.mg "set" = none) (ha : PE X a ta)
    (na : starEach [a] X.env = (false, eval a X.env) :: starEach [] X.env) : PE X (.Call (.Name "len" p) [.Call (.Name "set" p2) [a] [] q] [] pos) (tLenStr ta) := by
  refine ⟨fun pins s σ H Q I h => ?_⟩
  refine Call_ (ld_blt I hg hm boot_len ?_)
  refine PyProof.Rows.callWith_builtin1 (PyProof.Rows.args_cons ?_ rfl) rfl rfl
  refine Call_ (ld_blt I hg2 hm2 boot_set ?_)
  refine PyProof.Rows.callWith_type1 (PyProof.Rows.args_cons (thn (ha.run pins s σ H _ I h) fun v s1 ⟨x, H1, I1, r1, q1⟩ => PyProof.Rows.args_nil ?_) na) na rfl
  obtain ⟨z, rfl, hz, hnd, q1⟩ := q1
  obtain ⟨t, rfl⟩ := r1
  refine call_set_str (I1.ok.hd hc) hz hnd fun h' tk hS hk => ?_
  refine PyProof.Rows.args_nil ?_
  obtain ⟨o, es, ep, t, ho, hex, hd, _, _, _, hf, hn⟩ := hS
  have I2 : Inv X pins σ H1 { s1 with heap := h', toks := tk } := I1.kept fun b o e => hk b o (Heap.lt_size e) e
  have hl : z.cps.size = z.length := rfl
  refine call_len_set ho hex hd hf (by rw [hn] <;> omega) ⟨.int z.length, H1, I2.tok _, ⟨_, by rw [hn]; rfl⟩, q1⟩
theorem nodupB_of : ∀ {l : List Nat}, nodupB l = true → l.Nodup
  | [], _ => List.nodup_nil
  | x :: r, h => by
    unfold nodupB at h
    rw [Bool.and_eq_true, Bool.not_eq_true'] at h
    refine List.nodup_cons.mpr ⟨fun hx => ?_, nodupB_of h.2⟩
    have := List.any_eq_false.mp h.1 x hx
    exact this (beq_self_eq_true x)
theorem chars_nodup {z : Str} (h : nodupB z.cps.toList = true) : (chars z).Nodup := by
  refine List.Pairwise.map _ (fun a b hab e => hab ?_) (nodupB_of h)
  injection e with e
  injection e with e
  injection e
theorem s_lenSet {s : Sx E} {a : Expr} {p1 p2 p3 p : Pos} (C : CxG X W) (hg : Gl X "len") (hm : X.mg "len" = none) (hg2 : Gl X "set") (hm2 : X.mg "set" = none) (hs : starEach [a] X.env = [(false, eval a X.env)]) (ha : SE X q W s a) :
    SE X q W (sLenSet s) (.Call (.Name "len" p1) [.Call (.Name "set" p2) [a] [] p3] [] p) := by
  intro ρ G σ H m Q ME M F
  refine ⟨_, pe_lenStr C.calm hg hm hg2 hm2 pe_w hs, ?_⟩
  refine ha ρ G σ H m _ ME M (F.bind fun x G1 m1 x' H1 _ e1 M1 r1 F1 => ?_)
  obtain ⟨y, hy, F1⟩ := optR_fin F1
  cases r1 with
  | str z =>
    simp only [lenSetE] at hy
    split at hy
    · rename_i hz
      cases hy
      exact ⟨z, rfl, hz.1, chars_nodup hz.2, Fin.here F1 M1 (.int _)⟩
    · cases hy
  | _ => cases hy
end
end Lt
end
section
set_option Elab.async false
set_option linter.all false
set_option maxRecDepth 100000
set_option maxHeartbeats 1000000
/-! Lt: all that passes the check is sound. -/
namespace Lt
open PySem PySem.Spec PyProof.Rows L2
section
variable {P : Par} {S : Sg} {q : Wq}
theorem bnm {X : Cx} {W : WX} {sc : Scope} {k : Nat} {lm : Bool} (C : CxF X q W P S sc k lm) (b : B1) : X.mg b.name = none := by
  cases b <;> exact C.bn _ (by decide)
theorem bnl {X : Cx} {W : WX} {sc : Scope} {k : Nat} {lm : Bool} (C : CxF X q W P S sc k lm) (b : BL) : X.mg b.name = none := by
  cases b <;> exact C.bn _ (by decide)
theorem bnt {X : Cx} {W : WX} {sc : Scope} {k : Nat} {lm : Bool} (C : CxF X q W P S sc k lm) (b : TyN) : X.mg b.name = none := by
  cases b <;> exact C.bn _ (by decide)
theorem so_var {X : Cx} {W : WX} {sc : Scope} {k : Nat} {lm : Bool} {i : Nat} {x : Str} {p : Pos} (h : (decide (S.N[i]? = some x) && visB sc x && ndB x) = true) (C : CxF X q W P S sc k lm) : SE X q W (sVar i) (.Name x p) := by
  simp only [Bool.and_eq_true, decide_eq_true_eq, ndB, Bool.not_eq_true'] at h
  obtain ⟨⟨h1, h2⟩, h3, h4⟩ := h
  exact s_var (by rw [C.N]; exact h1) (by rw [C.sc]; exact visB_of h2) h3 h4
theorem so_glb {X : Cx} {W : WX} {sc : Scope} {k : Nat} {lm : Bool} {j : Nat} {x : Str} {p : Pos} (h : (decide (S.gn j = some x) && glB sc x && ndB x) = true) (C : CxF X q W P S sc k lm) : SE X q W (sGlb P j) (.Name x p) := by
  simp only [Bool.and_eq_true, decide_eq_true_eq, ndB, Bool.not_eq_true'] at h
  obtain ⟨⟨h1, h2⟩, h3, h4⟩ := h
  intro ρ G σ H m Q ME M F
  obtain ⟨v, hv, F⟩ := optR_fin F
  obtain ⟨u, v', e1, e2, e3⟩ := C.gv j v x hv h1
  exact s_glb (q := q) (W := W) (C.gl h2) e1 e2 h3 e3 ρ G σ H m Q ME M F
/-- no star among the arguments -/
theorem plain_args {lm : Bool} {sc : Scope} : ∀ {es : Exs} (h : okA S lm sc es = true) (p : Pos) (env : Env), (backTo p (starEach es.py env)).any (·.1) = false
  | .nil, _, p, env => rfl
  | .cons e r, h, p, env => by
    unfold okA at h
    rw [Bool.and_eq_true] at h
    show (backTo p (starEach (e.py :: r.py) env)).any (·.1) = false
    rw [star_ex (ok_star h.1)]
    have ih := plain_args h.2 p env
    show (false || (backTo p (starEach r.py env)).any (·.1)) = false
    rw [ih]
    rfl
theorem so_call {X : Cx} {W : WX} {sc : Scope} {k : Nat} {lm : Bool} {f : Nat} {x : Str} {es : Exs} {p1 p : Pos} (C : CxF X q W P S sc k lm)
    (h : ((match S.fn f with
    | some (y, n) => decide (y = x) && decide (es.len = n)
    | none => false) && decide (0 < es.len) && glB sc x && okA S lm sc es) = true) (ha : SA X q W (es.ev P) es.py) : SE X q W (sCall P f (es.ev P)) (.Call (.Name x p1) es.py [] p) := by
  rw [Bool.and_eq_true] at h
  obtain ⟨h, hA⟩ := h
  simp only [Bool.and_eq_true, decide_eq_true_eq] at h
  obtain ⟨⟨h1, h2⟩, h3⟩ := h
  cases qf : S.fn f with
  | none => rw [qf] at h1; cases h1
  | some yn =>
    obtain ⟨y, n⟩ := yn
    rw [qf] at h1
    simp only [Bool.and_eq_true, decide_eq_true_eq] at h1
    obtain ⟨rfl, hn⟩ := h1
    obtain ⟨a, fd, ps, e1, e2, e3, e4, e5, e6⟩ := C.fv f y n qf
    cases es with
    | nil => cases h2
    | cons e r =>
      unfold okA at hA
      rw [Bool.and_eq_true] at hA
      exact s_call C.toCxG C.rm e6 (C.gl h3) e1 e2 e3 e4 e5 (star_ex (ok_star hA.1) _ _) (plain_args hA.2 _ _) (fun ρ G xs G' h => (evs_len _ ρ G G' xs h).trans hn) ha
theorem so_refd {X : Cx} {W : WX} {sc sc2 : Scope} {k : Nat} {lm : Bool} {g : Nat} {x : Str} {sa : Sx E} {e : Expr} {p1 p2 p : Pos} (C : CxF X q W P S sc k lm) (h : (lm && decide (S.rn g = some x) && glB sc x && LamX.lamSB sc sc2) = true)
    (hB : ∀ {X' : Cx} {W' : WX}, CxF X' q W' P S sc2 k false → SE X' q W' sa e) : SE X q W (sRefd P g sa) (.Call (.Name x p1) [.Lambda ⟨[], [], none, [], [], none, []⟩ e sc2 p2] [] p) := by
  simp only [Bool.and_eq_true, decide_eq_true_eq] at h
  obtain ⟨⟨⟨h1, h2⟩, h3⟩, h4⟩ := h
  obtain ⟨hr, ⟨c, Pt, TB, hc, hT, hu⟩, rf⟩ := C.lv h1
  obtain ⟨a, ex, pg, sg, gA, CS, fd, Ng, j, j2, q1, q2, q3, q4, q5, q6, q7, q8, q9, q10, FD, hb, hm, Sg, hNg, hva, hge, hme, hde, h0, hrf, hdb, hd, hcd⟩ := rf g x h2
  exact s_refd FD hb (C.gl h3) hm Sg hNg hva hge hme hde h0 hrf TB hc hT hu hr (LamX.lamS_by (by rw [C.sc]; exact h4)) rfl (fun _ _ _ _ _ => rfl) hdb hd hcd fun A outer s H E f c' hr2 => hB (C.lam A outer s H E sc2 f c' hr2)
theorem one_star {e : Ex} (h : starOk e = true) (env : Env) : starEach [e.py] env = [(false, eval e.py env)] := star_ex h [] env
theorem few_ok {e : Ex} (h : starOk e = true) (p : Pos) (env : Env) : ((backTo p (starEach [e.py] env)).all (fun x => !x.1) && (backToKw p (keywordEach [] env)).all (fun x => x.1.isSome)
      && decide ([e.py].length + ([] : List Keyword).length + (if ([] : List Keyword).isEmpty then 0 else 1) < 30)) = true := by
  rw [one_star h]
  rfl
theorem it_st {lm : Bool} {sc : Scope} {i : It} (h : okI S lm sc i = true) (env : Env) (x : Value) : foldedSetIterable i.py env x = pure x := by
  cases i with
  | l l =>
    cases l with
    | ofE e =>
      unfold okI okL at h
      rw [Bool.and_eq_true] at h
      exact flat_st h.2 env x
    | _ => rfl
  | a e =>
    unfold okI at h
    rw [Bool.and_eq_true] at h
    exact flat_st h.2 env x
  | _ => rfl
/-- as a value, of bools alone -/
abbrev SB (X : Cx) (q : Wq) (W : WX) (s : Sx Bool) (e : Expr) : Prop := Snd (dW X q) W s RB (fun σ H Q => wE X e σ H fun x H1 => ∃ c, x = .bl c ∧ Q c H1)
mutual
theorem soE : ∀ (e : Ex) {X : Cx} {W : WX} {sc : Scope} {k : Nat} {lm : Bool}, okE S lm sc e = true → CxF X q W P S sc k lm → SE X q W (e.ev P) e.py
  | .var i x p, X, W, sc, k, lm, h, C => so_var h C
  | .glb j x p, X, W, sc, k, lm, h, C => so_glb h C
  | .int i k2 p, X, W, sc, k, lm, h, C => s_int
  | .bl b k2 p, X, W, sc, k, lm, h, C => s_bl
  | .non k2 p, X, W, sc, k, lm, h, C => s_non
  | .str x k2 p, X, W, sc, k, lm, h, C => s_str
  | .bin o a b p, X, W, sc, k, lm, h, C => by
    unfold okE at h
    rw [Bool.and_eq_true] at h
    exact s_bin (soE a h.1 C) (soE b h.2 C)
  | .cmp o a b p, X, W, sc, k, lm, h, C => by
    unfold okE at h
    rw [Bool.and_eq_true] at h
    exact s_cmp C.toCxG (soE a h.1 C) (soE b h.2 C)
  | .isN a k2 p1 p, X, W, sc, k, lm, h, C => by
    unfold okE at h
    exact s_isN (soE a h C)
  | .ntN a k2 p1 p, X, W, sc, k, lm, h, C => by
    unfold okE at h
    exact s_ntN (soE a h C)
  | .not a p, X, W, sc, k, lm, h, C => by
    unfold okE at h
    exact s_not (soE a h C)
  | .and es p, X, W, sc, k, lm, h, C => by
    unfold okE at h
    exact s_vB (soAnd es p h C)
  | .or es p, X, W, sc, k, lm, h, C => by
    unfold okE at h
    exact s_vB (soOr es p h C)
  | .ifx c a b p, X, W, sc, k, lm, h, C => by
    unfold okE at h
    rw [Bool.and_eq_true, Bool.and_eq_true] at h
    exact s_ifx (soT c h.1.1 C) (soE a h.1.2 C) (soE b h.2 C)
  | .tup es k2 p, X, W, sc, k, lm, h, C => by
    unfold okE at h
    exact s_tup (soA es h C)
  | .sub a i p, X, W, sc, k, lm, h, C => by
    unfold okE at h
    rw [Bool.and_eq_true, Bool.and_eq_true] at h
    exact s_sub C.un (flat_ix h.2) (soE a h.1.1 C) (soE i h.1.2 C)
  | .slice a lo hi p1 p, X, W, sc, k, lm, h, C => by
    unfold okE at h
    rw [Bool.and_eq_true, Bool.and_eq_true] at h
    exact s_slice (soE a h.1.1 C) (soO lo h.1.2 C) (soO hi h.2 C)
  | .call f x es p1 p, X, W, sc, k, lm, h, C => by
    unfold okE at h
    have h2 := h
    rw [Bool.and_eq_true] at h2
    exact so_call C h (soA es h2.2 C)
  | .bi1 b a p1 p, X, W, sc, k, lm, h, C => by
    unfold okE at h
    rw [Bool.and_eq_true] at h
    exact s_bi1 (C.gl h.1) (bnm C b) (one_star (ok_star h.2) _) (soE a h.2 C)
  | .biL b l p1 p, X, W, sc, k, lm, h, C => by
    unfold okE at h
    rw [Bool.and_eq_true] at h
    exact s_biL C.toCxG (C.gl h.1) (bnl C b) (star_lx h.2 [] _) (soL l h.2 C)
  | .isi a t p1 p2 p, X, W, sc, k, lm, h, C => by
    unfold okE at h
    rw [Bool.and_eq_true, Bool.and_eq_true] at h
    exact s_isi (C.gl h.1.1) (C.bn _ (by decide)) (C.gl h.1.2) (bnt C t) (star_ex (ok_star h.2) _ _) (soE a h.2 C)
  | .inS a b p, X, W, sc, k, lm, h, C => by
    unfold okE at h
    rw [Bool.and_eq_true, Bool.and_eq_true] at h
    exact s_inS (flat_in h.2) (soE a h.1.1 C) (soE b h.1.2 C)
  | .sidx a b p1 p, X, W, sc, k, lm, h, C => by
    unfold okE at h
    rw [Bool.and_eq_true, Bool.and_eq_true, Bool.and_eq_true] at h
    exact s_sidx C.toCxG (recv_base h.1.2 _ _) (one_star (ok_star h.1.1.2) _) (few_ok (ok_star h.1.1.2) _ _) h.2 (soE a h.1.1.1 C) (soE b h.1.1.2 C)
  | .join a l p1 p, X, W, sc, k, lm, h, C => by
    unfold okE at h
    rw [Bool.and_eq_true, Bool.and_eq_true, Bool.and_eq_true] at h
    exact s_join (recv_base h.1.2 _ _) (star_lx h.1.1.2 [] _) h.2 (soE a h.1.1.1 C) (soL l h.1.1.2 C)
  | .subL l i p, X, W, sc, k, lm, h, C => by
    unfold okE at h
    rw [Bool.and_eq_true, Bool.and_eq_true] at h
    exact s_subL (flat_ix h.2) (soL l h.1.1 C) (soE i h.1.2 C)
  | .new l, X, W, sc, k, lm, h, C => by
    unfold okE at h
    rw [Bool.and_eq_true] at h
    exact s_new (soL l h.1 C)
  | .dct ks es p, X, W, sc, k, lm, h, C => by
    unfold okE at h
    rw [Bool.and_eq_true, Bool.and_eq_true, Bool.and_eq_true, Bool.and_eq_true, decide_eq_true_eq, decide_eq_true_eq, decide_eq_true_eq, decide_eq_true_eq] at h
    obtain ⟨⟨⟨⟨h1, h2⟩, h3⟩, h4⟩, h5⟩ := h
    exact s_dct (by rw [h1, pys_len]) ⟨h2, by rw [List.length_map]; exact h3, h4⟩ (soPs es h5 C)
  | .lenSet a p1 p2 p3 p, X, W, sc, k, lm, h, C => by
    unfold okE at h
    rw [Bool.and_eq_true, Bool.and_eq_true] at h
    exact s_lenSet C.toCxG (C.gl h.1.1) (C.bn _ (by decide)) (C.gl h.1.2) (C.bn _ (by decide)) (one_star (ok_star h.2) _) (soE a h.2 C)
  | .neL a b p, X, W, sc, k, lm, h, C => by
    unfold okE at h
    rw [Bool.and_eq_true] at h
    exact s_neL C.un (soL a h.1 C) (soL b h.2 C)
  | .refd g x e sc2 p1 p2 p, X, W, sc, k, lm, h, C => by
    unfold okE at h
    rw [Bool.and_eq_true] at h
    exact so_refd C h.1 fun C' => soE e h.2 C'
theorem soT : ∀ (e : Ex) {X : Cx} {W : WX} {sc : Scope} {k : Nat} {lm : Bool}, okT S lm sc e = true → CxF X q W P S sc k lm → ST X q W (e.evT P) e.py
  | .cmp o a b p, X, W, sc, k, lm, h, C => by
    unfold okT at h
    rw [Bool.and_eq_true] at h
    exact st_cmp C.toCxG (soE a h.1 C) (soE b h.2 C)
  | .isN a k2 p1 p, X, W, sc, k, lm, h, C => by
    unfold okT at h
    exact st_isN (soE a h C)
  | .ntN a k2 p1 p, X, W, sc, k, lm, h, C => by
    unfold okT at h
    exact st_ntN (soE a h C)
  | .not a p, X, W, sc, k, lm, h, C => by
    unfold okT at h
    exact st_not (soT a h C)
  | .and es p, X, W, sc, k, lm, h, C => by
    unfold okT at h
    exact st_w (soTAnd es p h C)
  | .or es p, X, W, sc, k, lm, h, C => by
    unfold okT at h
    exact st_w (soTOr es p h C)
  | .var i x p, X, W, sc, k, lm, h, C => by
    unfold okT at h
    exact st_tru (so_var h C) (fun _ => rfl)
  | .bl b k2 p, X, W, sc, k, lm, h, C => st_tru s_bl (fun _ => rfl)
  | .sub a i p, X, W, sc, k, lm, h, C => by
    unfold okT at h
    rw [Bool.and_eq_true, Bool.and_eq_true] at h
    exact st_tru (s_sub C.un (flat_ix h.2) (soE a h.1.1 C) (soE i h.1.2 C)) (fun _ => rfl)
  | .call f x es p1 p, X, W, sc, k, lm, h, C => by
    unfold okT at h
    have h2 := h
    rw [Bool.and_eq_true] at h2
    exact st_tru (so_call C h (soA es h2.2 C)) (fun _ => rfl)
  | .biL b l p1 p, X, W, sc, k, lm, h, C => by
    unfold okT at h
    rw [Bool.and_eq_true] at h
    exact st_tru (s_biL C.toCxG (C.gl h.1) (bnl C b) (star_lx h.2 [] _) (soL l h.2 C)) (fun _ => rfl)
  | .isi a t p1 p2 p, X, W, sc, k, lm, h, C => by
    unfold okT at h
    rw [Bool.and_eq_true, Bool.and_eq_true] at h
    exact st_tru (s_isi (C.gl h.1.1) (C.bn _ (by decide)) (C.gl h.1.2) (bnt C t) (star_ex (ok_star h.2) _ _) (soE a h.2 C)) (fun _ => rfl)
  | .refd g x e sc2 p1 p2 p, X, W, sc, k, lm, h, C => by
    unfold okT at h
    rw [Bool.and_eq_true] at h
    exact st_tru (so_refd C h.1 fun C' => soE e h.2 C') (fun _ => rfl)
  | .inS a b p, X, W, sc, k, lm, h, C => by
    unfold okT at h
    rw [Bool.and_eq_true, Bool.and_eq_true] at h
    exact st_inS (flat_in h.2) (soE a h.1.1 C) (soE b h.1.2 C)
  | .neL a b p, X, W, sc, k, lm, h, C => by
    unfold okT at h
    rw [Bool.and_eq_true] at h
    exact st_neL C.un (soL a h.1 C) (soL b h.2 C)
  | .glb _ _ _, X, W, sc, k, lm, h, C => by unfold okT at h; cases h
  | .int _ _ _, X, W, sc, k, lm, h, C => by unfold okT at h; cases h
  | .non _ _, X, W, sc, k, lm, h, C => by unfold okT at h; cases h
  | .str _ _ _, X, W, sc, k, lm, h, C => by unfold okT at h; cases h
  | .bin _ _ _ _, X, W, sc, k, lm, h, C => by unfold okT at h; cases h
  | .ifx _ _ _ _, X, W, sc, k, lm, h, C => by unfold okT at h; cases h
  | .tup _ _ _, X, W, sc, k, lm, h, C => by unfold okT at h; cases h
  | .slice _ _ _ _ _, X, W, sc, k, lm, h, C => by unfold okT at h; cases h
  | .bi1 _ _ _ _, X, W, sc, k, lm, h, C => by unfold okT at h; cases h
  | .sidx _ _ _ _, X, W, sc, k, lm, h, C => by unfold okT at h; cases h
  | .join _ _ _ _, X, W, sc, k, lm, h, C => by unfold okT at h; cases h
  | .subL _ _ _, X, W, sc, k, lm, h, C => by unfold okT at h; cases h
  | .new _, X, W, sc, k, lm, h, C => by unfold okT at h; cases h
  | .dct _ _ _, X, W, sc, k, lm, h, C => by unfold okT at h; cases h
  | .lenSet _ _ _ _ _, X, W, sc, k, lm, h, C => by unfold okT at h; cases h
theorem soA : ∀ (es : Exs) {X : Cx} {W : WX} {sc : Scope} {k : Nat} {lm : Bool}, okA S lm sc es = true → CxF X q W P S sc k lm → SA X q W (es.ev P) es.py
  | .nil, X, W, sc, k, lm, h, C => sa_nil
  | .cons e r, X, W, sc, k, lm, h, C => by
    unfold okA at h
    rw [Bool.and_eq_true] at h
    exact sa_cons (star_ex (ok_star h.1) _ _) (soE e h.1 C) (soA r h.2 C)
theorem soPs : ∀ (es : Exs) {X : Cx} {W : WX} {sc : Scope} {k : Nat} {lm : Bool}, okA S lm sc es = true → CxF X q W P S sc k lm → SPs X q W (es.ev P) es.py
  | .nil, X, W, sc, k, lm, h, C => sp_nil
  | .cons e r, X, W, sc, k, lm, h, C => by
    unfold okA at h
    rw [Bool.and_eq_true] at h
    exact sp_cons (soE e h.1 C) (soPs r h.2 C)
theorem soAnd : ∀ (es : Exs) (p : Pos) {X : Cx} {W : WX} {sc : Scope} {k : Nat} {lm : Bool}, okBs S lm sc es = true → CxF X q W P S sc k lm → SB X q W (es.evAnd P) (.BoolOp .And es.py p)
  | .nil, p, X, W, sc, k, lm, h, C => by unfold okBs at h; cases h
  | .cons e .nil, p, X, W, sc, k, lm, h, C => by
    unfold okBs at h
    exact sv_and1 (soE e h C)
  | .cons e (.cons e2 r), p, X, W, sc, k, lm, h, C => by
    unfold okBs at h
    rw [Bool.and_eq_true] at h
    exact sv_and (soE e h.1 C) (soAnd (.cons e2 r) p h.2 C)
theorem soOr : ∀ (es : Exs) (p : Pos) {X : Cx} {W : WX} {sc : Scope} {k : Nat} {lm : Bool}, okBs S lm sc es = true → CxF X q W P S sc k lm → SB X q W (es.evOr P) (.BoolOp .Or es.py p)
  | .nil, p, X, W, sc, k, lm, h, C => by unfold okBs at h; cases h
  | .cons e .nil, p, X, W, sc, k, lm, h, C => by
    unfold okBs at h
    exact sv_and1 (soE e h C)
  | .cons e (.cons e2 r), p, X, W, sc, k, lm, h, C => by
    unfold okBs at h
    rw [Bool.and_eq_true] at h
    exact sv_or (soE e h.1 C) (soOr (.cons e2 r) p h.2 C)
theorem soTAnd : ∀ (es : Exs) (p : Pos) {X : Cx} {W : WX} {sc : Scope} {k : Nat} {lm : Bool}, okTs S lm sc es = true → CxF X q W P S sc k lm → SW X q W (es.evTAnd P) (.BoolOp .And es.py p)
  | .nil, p, X, W, sc, k, lm, h, C => by unfold okTs at h; cases h
  | .cons e .nil, p, X, W, sc, k, lm, h, C => by
    unfold okTs at h
    exact sw_and1 (soT e h C)
  | .cons e (.cons e2 r), p, X, W, sc, k, lm, h, C => by
    unfold okTs at h
    rw [Bool.and_eq_true] at h
    exact sw_and (soT e h.1 C) (soTAnd (.cons e2 r) p h.2 C)
theorem soTOr : ∀ (es : Exs) (p : Pos) {X : Cx} {W : WX} {sc : Scope} {k : Nat} {lm : Bool}, okTs S lm sc es = true → CxF X q W P S sc k lm → SW X q W (es.evTOr P) (.BoolOp .Or es.py p)
  | .nil, p, X, W, sc, k, lm, h, C => by unfold okTs at h; cases h
  | .cons e .nil, p, X, W, sc, k, lm, h, C => by
    unfold okTs at h
    exact sw_or1 (soT e h C)
  | .cons e (.cons e2 r), p, X, W, sc, k, lm, h, C => by
    unfold okTs at h
    rw [Bool.and_eq_true] at h
    exact sw_or (soT e h.1 C) (soTOr (.cons e2 r) p h.2 C)
theorem soO : ∀ (o : Ox) {X : Cx} {W : WX} {sc : Scope} {k : Nat} {lm : Bool}, okO S lm sc o = true → CxF X q W P S sc k lm → SO X q W (o.ev P) o.py
  | .none, X, W, sc, k, lm, h, C => so_none
  | .some e, X, W, sc, k, lm, h, C => by
    unfold okO at h
    exact so_some (soE e h C)
theorem soOT : ∀ (o : Ox) {X : Cx} {W : WX} {sc : Scope} {k : Nat} {lm : Bool}, okOT S lm sc o = true → CxF X q W P S sc k lm → Snd (dW X q) W (o.evT P) RB (wTs X o.pys)
  | .none, X, W, sc, k, lm, h, C => fun ρ G σ H m Q ME M F => ⟨_, pts_nil, Fin.here F M rfl⟩
  | .some e, X, W, sc, k, lm, h, C => by
    unfold okOT at h
    exact fun ρ G σ H m Q ME M F => ⟨_, pts_one pt_w, soT e h C ρ G σ H m Q ME M F⟩
theorem soL : ∀ (l : Lx) {X : Cx} {W : WX} {sc : Scope} {k : Nat} {lm : Bool}, okL S lm sc l = true → CxF X q W P S sc k lm → SL X q W (l.ev P) l.py
  | .ofE e, X, W, sc, k, lm, h, C => by
    unfold okL at h
    rw [Bool.and_eq_true] at h
    exact l_ofE (soE e h.1 C)
  | .disp es p, X, W, sc, k, lm, h, C => by
    unfold okL at h
    exact l_disp (soA es h C)
  | .cat a b p, X, W, sc, k, lm, h, C => by
    unfold okL at h
    rw [Bool.and_eq_true] at h
    exact l_cat (soL a h.1 C) (soL b h.2 C)
  | .listS a p1 p, X, W, sc, k, lm, h, C => by
    unfold okL at h
    rw [Bool.and_eq_true] at h
    exact l_listS C.toCxG (C.gl h.1) (C.bn _ (by decide)) (one_star (ok_star h.2) _) (soE a h.2 C)
  | .sortS a p1 p, X, W, sc, k, lm, h, C => by
    unfold okL at h
    rw [Bool.and_eq_true] at h
    exact l_sortS C.toCxG (C.gl h.1) (C.bn _ (by decide)) (one_star (ok_star h.2) _) (soE a h.2 C)
  | .lc e t it c sc2 own p, X, W, sc, k, lm, h, C => by
    unfold okL at h
    rw [Bool.and_eq_true, Bool.and_eq_true, Bool.and_eq_true, Bool.and_eq_true, List.all_eq_true] at h
    obtain ⟨⟨⟨⟨h1, h2⟩, h3⟩, h4⟩, h5⟩ := h
    refine l_lc C.toCxG (by rw [C.N, C.sc]; exact blkOk_by h2) (soI it h1 C) (fun s H C0 cl fp n hn => ?_) (fun n hn => ?_) (fun s H C0 cl fp => soOT c h4 (C.blk s H sc2 C0 cl fp)) (fun s H C0 cl fp => soE e h5 (C.blk s H sc2 C0 cl fp)) ?_
    · have z := h3 n hn
      rw [Bool.and_eq_true] at z
      exact nmL_ok (C.blk s H sc2 C0 cl fp) z.1
    · have z := h3 n hn
      rw [Bool.and_eq_true, decide_eq_true_eq] at z
      exact z.2
    · exact fun x => it_st h1 _ x
theorem soI : ∀ (i : It) {tg : Expr} {X : Cx} {W : WX} {sc : Scope} {k : Nat} {lm : Bool}, okI S lm sc i = true → CxF X q W P S sc k lm → SI X q W tg (i.ev P) i.py
  | .l l, tg, X, W, sc, k, lm, h, C => by
    unfold okI at h
    exact i_l (soL l h C)
  | .a e, tg, X, W, sc, k, lm, h, C => by
    unfold okI at h
    rw [Bool.and_eq_true] at h
    exact i_a (soE e h.1 C)
  | .r1 a p1 p, tg, X, W, sc, k, lm, h, C => by
    unfold okI at h
    rw [Bool.and_eq_true] at h
    exact i_r1 (C.gl h.1) (C.bn _ (by decide)) (one_star (ok_star h.2) _) (soE a h.2 C)
  | .r2 a b p1 p, tg, X, W, sc, k, lm, h, C => by
    unfold okI at h
    rw [Bool.and_eq_true, Bool.and_eq_true] at h
    exact i_r2 (C.gl h.1.1) (C.bn _ (by decide)) (by rw [star_ex (ok_star h.1.2), one_star (ok_star h.2)]) (one_star (ok_star h.2) _) (soE a h.1.2 C) (soE b h.2 C)
end
end
end Lt
end
section
set_option Elab.async false
set_option linter.all false
set_option maxRecDepth 100000
set_option maxHeartbeats 1000000
/-! Lt: all statements that pass the check are sound. -/
namespace Lt
open PySem PySem.Spec PyProof.Rows L2
def nmsS (S : Sg) (sc : Scope) (t : Tg) : Bool := t.nms.all fun n => nmS S sc n
def isInt : Ex → Bool
  | .int _ _ _ => true
  | _ => false
def allInt : Exs → Bool
  | .nil => true
  | .cons e r => isInt e && allInt r
/-- a store that is not turned about -/
def asgOk : Tg → Ex → Bool
  | .name _, e => flat e
  | .tup _ _ _, .tup es _ _ => allInt es
  | .tup _ _ _, e => flat e
def noStar : Expr → Bool
  | .Starred _ _ => false
  | _ => true
def parOk (sc : Scope) (a b : Nm) (e f : Expr) : Bool :=
  decide (a.x ≠ b.x) && (a.p.line == b.p.line) && !(foldedForSure 8 e && foldedForSure 8 f) && !(constantsAlone 8 e && constantsAlone 8 f) && noStar e && noStar f && decide (sc.kind = .function)
mutual
def okS (S : Sg) (lm : Bool) (sc : Scope) : Stm → Bool
  | .asg t e p => nmsS S sc t && asgOk t e && okE S lm sc e
  | .asgL n l p => nmS S sc n && (match l with
    | .ofE _ => false
    | .disp es p2 => okL S lm sc (.disp es p2)
    | .cat a b p2 => okL S lm sc (.cat a b p2)
    | .listS a p1 p2 => okL S lm sc (.listS a p1 p2)
    | .sortS a p1 p2 => okL S lm sc (.sortS a p1 p2)
    | .lc e t it c sc2 own p2 => okL S lm sc (.lc e t it c sc2 own p2) && nmL S sc n && decide (sc.kind = .function) && (n.p.line == p2.line) && !(sc2.names.any fun (y, k) => y == n.x && (k == .local || k == .cell)))
  | .par a b e f _ _ _ _ _ => nmL S sc a && nmL S sc b && decide (a.i ≠ b.i) && parOk sc a b e.py f.py && okE S lm sc e && okE S lm sc f
  | .aug _ n e _ => nmS S sc n && okE S lm sc e
  | .setD o k e _ _ => okE S lm sc o && okE S lm sc k && okE S lm sc e && flat e
  | .expr e _ => okE S lm sc e && flat e
  | .app o e p1 p2 _ => okE S lm sc o && okE S lm sc e && recv o && (p1.endLine == p2.line)
  | .ifs c a b _ => okT S lm sc c && okSs S lm sc a && okSs S lm sc b
  | .forr t it b _ => nmsS S sc t && okI S lm sc it && okSs S lm sc b
  | .whil c b _ => okT S lm sc c && okSs S lm sc b
  | .ret e _ => okE S lm sc e
  | .retN _ => true
  | .rais c x _ _ _ _ _ _ => decide (S.xn c = some x) && glB sc x
  | .pas _ => true
  | .brk _ => true
  | .cont _ => true
def okSs (S : Sg) (lm : Bool) (sc : Scope) : Stms → Bool
  | .nil => true
  | .cons s r => okS S lm sc s && okSs S lm sc r
end
/-- a def's context -/
structure CxB (X : Cx) (q : Wq) (W : WX) (P : Par) (S : Sg) (sc : Scope) (k : Nat) (lm : Bool) : Prop extends CxF X q W P S sc k lm where
  po : PassesOwn (model X.prog X.w) X.A X.env X.xe
  fnt : ∀ x, X.fn x = true
  xv : ∀ c x, S.xn c = some x → ∀ (m : Str) (j : Nat) (p p2 pos : Pos), Gl X x → PMk X (.Call (.Name x p) [.Constant (.str m) j p2] [] pos) (fun _ H Q => Q (q.xc c) none H)
section
variable {P : Par} {S : Sg} {q : Wq} {X : Cx} {W : WX} {sc : Scope} {k : Nat} {lm : Bool}
theorem CxB.s (C : CxB X q W P S sc k lm) : CxS X W := ⟨C.toCxG, C.po⟩
theorem nmS_ok (C : CxB X q W P S sc k lm) {n : Nm} (h : nmS S sc n = true) : NmOk X n := by
  unfold nmS at h
  rw [Bool.and_eq_true, decide_eq_true_eq] at h
  obtain ⟨h1, h2⟩ := h
  refine ⟨by rw [C.N]; exact h1, ?_, .inl (C.fnt _)⟩
  show Loc X.env.scope n.x
  rw [C.sc]
  split at h2
  · exact .inl (by assumption)
  · exact .inr (by assumption)
  · cases h2
theorem nmL_lk (C : CxB X q W P S sc k lm) {n : Nm} (h : nmL S sc n = true) : X.N[n.i]? = some n.x ∧ X.env.scope.names.lookup n.x = some .local := by
  unfold nmL at h
  rw [Bool.and_eq_true, decide_eq_true_eq] at h
  obtain ⟨h1, h2⟩ := h
  refine ⟨by rw [C.N]; exact h1, ?_⟩
  rw [C.sc]
  split at h2
  · assumption
  · cases h2
theorem isInt_folded {e : Ex} (h : isInt e = true) : foldedForSure 8 e.py = true ∧ noStar e.py = true := by
  cases e <;> first | exact ⟨rfl, rfl⟩ | cases h
theorem allInt_folded : ∀ {es : Exs}, allInt es = true → es.py.all (foldedForSure 8) = true ∧ (es.py.any fun | .Starred .. => true | _ => false) = false
  | .nil, _ => ⟨rfl, rfl⟩
  | .cons e r, h => by
    unfold allInt at h
    rw [Bool.and_eq_true] at h
    have ih := allInt_folded h.2
    cases e <;> first | exact ⟨by show (foldedForSure 8 _ && r.py.all (foldedForSure 8)) = true; rw [ih.1]; rfl, by show (false || _) = false; rw [ih.2]; rfl⟩ | cases h.1
theorem sw_const {ts vs : List Expr} {k k2 : Nat} {p p2 : Pos} {env : Env} (h1 : vs.all (foldedForSure 8) = true) (h2 : (vs.any fun | .Starred .. => true | _ => false) = false) : swappedStores [.Tuple ts k p] (.Tuple vs k2 p2) env = pure none := by
  unfold swappedStores
  simp only [h1, h2]
  split
  · rfl
  · split
    · rfl
    · split
      · rfl
      · split
        · rfl
        · rename_i hh; exact absurd trivial hh
theorem sw_par {a b : Nm} {e f : Expr} {k k2 : Nat} {p p2 : Pos} {env : Env} (hk : env.scope.kind = .function) (ha : env.scope.names.lookup a.x = some .local) (hb : env.scope.names.lookup b.x = some .local) (hab : a.x ≠ b.x) (hl : (a.p.line == b.p.line) = true)
   (hf : (foldedForSure 8 e && foldedForSure 8 f) = false) (hc : (constantsAlone 8 e && constantsAlone 8 f) = false) (he : noStar e = true) (hf2 : noStar f = true) : swappedStores [.Tuple [a.py, b.py] k p] (.Tuple [e, f] k2 p2) env = pure (some [a.x, b.x]) := by
  have ka : env.kindOf a.x = some .local := ha
  have kb : env.kindOf b.x = some .local := hb
  have hbk : env.blockKind = .function := by unfold Env.blockKind; rw [hk]; rfl
  have e1 : (env.kindOf a.x == some NameKind.local && a.p.line == a.p.line) = true := by rw [ka]; simp
  have e2 : (env.kindOf b.x == some NameKind.local && b.p.line == a.p.line) = true := by
    rw [kb, beq_iff_eq.mp hl]; simp
  unfold swappedStores
  simp only []
  split
  · rename_i h
    simp [hbk] at h
  · split
    · rename_i h
      rw [List.any_eq_true] at h
      obtain ⟨x, hx, hm⟩ := h
      have hx : x = e ∨ x = f := by simpa using hx
      rcases hx with rfl | rfl
      · cases x <;> first | (cases hm; done) | (cases he; done)
      · cases x <;> first | (cases hm; done) | (cases hf2; done)
    · split
      · rename_i h
        simp [Nm.py, ka, kb, Expr.pos, beq_iff_eq.mp hl, List.eraseDups_cons, hab.symm] at h
      · split
        · rename_i h
          simp at h
          rw [h.1, h.2] at hf
          cases hf
        · split
          · rename_i h
            simp at h
            rw [h.1, h.2] at hc
            cases hc
          · simp [Nm.py, ka, kb, Expr.pos, beq_iff_eq.mp hl]
theorem asg_sw {t : Tg} {e : Ex} {p : Pos} {env : Env} (h : asgOk t e = true) : swapsWithSole [t.py] e.py p.line env = pure false ∧ swappedStores [t.py] e.py env = pure none := by
  cases t with
  | name n => exact ⟨by unfold swapsWithSole; exact flat_sw (e := e) (by unfold asgOk at h; exact h) _ _ _, by cases e <;> rfl⟩
  | tup ns k p2 =>
    cases e with
    | tup es k3 p3 =>
      obtain ⟨h1, h2⟩ := allInt_folded (show allInt es = true from h)
      exact ⟨rfl, sw_const h1 h2⟩
    | new l => cases h
    | _ => exact ⟨rfl, rfl⟩
mutual
theorem soS : ∀ (s : Stm) {X : Cx} {W : WX} {sc : Scope} {k : Nat} {lm : Bool}, okS S lm sc s = true → CxB X q W P S sc k lm → SS X q W (s.ev P) s.py
  | .asg t e p, X, W, sc, k, lm, h, C => by
    unfold okS nmsS at h
    rw [Bool.and_eq_true, Bool.and_eq_true, List.all_eq_true] at h
    obtain ⟨⟨h1, h2⟩, h3⟩ := h
    obtain ⟨w1, w2⟩ := asg_sw (p := p) (env := X.env) h2
    exact q_asg C.toCxG (fun n hn => nmS_ok C (h1 n hn)) w1 w2 (soE e h3 C.toCxF)
  | .asgL n (.ofE e) p, X, W, sc, k, lm, h, C => by
    unfold okS at h
    rw [Bool.and_eq_true] at h
    cases h.2
  | .asgL n (.disp es p2) p, X, W, sc, k, lm, h, C => by
    unfold okS at h
    rw [Bool.and_eq_true] at h
    exact q_set C.toCxG (nmS_ok C h.1) (by rfl) (s_new (soL (.disp es p2) h.2 C.toCxF))
  | .asgL n (.cat a b p2) p, X, W, sc, k, lm, h, C => by
    unfold okS at h
    rw [Bool.and_eq_true] at h
    exact q_set C.toCxG (nmS_ok C h.1) (by rfl) (s_new (soL (.cat a b p2) h.2 C.toCxF))
  | .asgL n (.listS a p1 p2) p, X, W, sc, k, lm, h, C => by
    unfold okS at h
    rw [Bool.and_eq_true] at h
    exact q_set C.toCxG (nmS_ok C h.1) (by rfl) (s_new (soL (.listS a p1 p2) h.2 C.toCxF))
  | .asgL n (.sortS a p1 p2) p, X, W, sc, k, lm, h, C => by
    unfold okS at h
    rw [Bool.and_eq_true] at h
    exact q_set C.toCxG (nmS_ok C h.1) (by rfl) (s_new (soL (.sortS a p1 p2) h.2 C.toCxF))
  | .asgL n (.lc e t it c sc2 own p2) p, X, W, sc, k, lm, h, C => by
    unfold okS okL at h
    simp only [Bool.and_eq_true, List.all_eq_true, decide_eq_true_eq, Bool.not_eq_true'] at h
    obtain ⟨h0, ⟨⟨⟨⟨⟨⟨⟨h1, h2⟩, h3⟩, h4⟩, h5⟩, h6⟩, h7⟩, h8⟩, h9⟩ := h
    obtain ⟨l1, l2⟩ := nmL_lk C h6
    refine q_setLc C.toCxG l1 l2 (sw_true (by rw [C.sc]; exact h7) l2 h8 h9) (by rw [C.N, C.sc]; exact blkOk_by h2) (soI it h1 C.toCxF) (fun s H C0 cl fp n hn => nmL_ok (C.toCxF.blk s H sc2 C0 cl fp) (h3 n hn).1) (fun n hn => (h3 n hn).2)
      (fun s H C0 cl fp => soOT c h4 (C.toCxF.blk s H sc2 C0 cl fp)) (fun s H C0 cl fp => soE e h5 (C.toCxF.blk s H sc2 C0 cl fp)) (fun x => it_st h1 _ x)
  | .par a b e f k1 k2 p1 p2 p, X, W, sc, k, lm, h, C => by
    unfold okS parOk at h
    simp only [Bool.and_eq_true, decide_eq_true_eq, Bool.not_eq_true'] at h
    obtain ⟨⟨⟨⟨⟨h1, h2⟩, h3⟩, ⟨⟨⟨⟨⟨⟨g1, g2⟩, g3⟩, g4⟩, g5⟩, g6⟩, g7⟩⟩, h5⟩, h6⟩ := h
    obtain ⟨a1, a2⟩ := nmL_lk C h1
    obtain ⟨b1, b2⟩ := nmL_lk C h2
    exact q_par C.toCxG a1 b1 h3 a2 b2 (sw_par (by rw [C.sc]; exact g7) a2 b2 g1 g2 g3 g4 g5 g6) (star_ex (ok_star h5) _ _) (star_ex (ok_star h6) _ _) (soE e h5 C.toCxF) (soE f h6 C.toCxF)
  | .aug o n e p, X, W, sc, k, lm, h, C => by
    unfold okS at h
    rw [Bool.and_eq_true] at h
    exact q_aug C.toCxG (nmS_ok C h.1) (soE e h.2 C.toCxF)
  | .setD o kk e p1 p, X, W, sc, k, lm, h, C => by
    unfold okS at h
    rw [Bool.and_eq_true, Bool.and_eq_true, Bool.and_eq_true] at h
    exact q_setD C.un (flat_sw h.2 _ _ _) (soE o h.1.1.1 C.toCxF) (soE kk h.1.1.2 C.toCxF) (soE e h.1.2 C.toCxF)
  | .expr e p, X, W, sc, k, lm, h, C => by
    unfold okS at h
    rw [Bool.and_eq_true] at h
    exact q_expr (flat_sw h.2 _ _ _) (soE e h.1 C.toCxF)
  | .app o e p1 p2 p, X, W, sc, k, lm, h, C => by
    unfold okS at h
    rw [Bool.and_eq_true, Bool.and_eq_true, Bool.and_eq_true] at h
    exact q_app (recv_base h.1.2 _ _) (few_ok (ok_star h.1.1.2) _ _) h.2 (one_star (ok_star h.1.1.2) _) (soE o h.1.1.1 C.toCxF) (soE e h.1.1.2 C.toCxF)
  | .ifs c a b p, X, W, sc, k, lm, h, C => by
    unfold okS at h
    rw [Bool.and_eq_true, Bool.and_eq_true] at h
    exact q_if (soT c h.1.1 C.toCxF) (soSs a h.1.2 C) (soSs b h.2 C)
  | .forr t it b p, X, W, sc, k, lm, h, C => by
    unfold okS nmsS at h
    rw [Bool.and_eq_true, Bool.and_eq_true, List.all_eq_true] at h
    exact q_for C.s (soI it h.1.2 C.toCxF) (fun n hn => nmS_ok C (h.1.1 n hn)) (soSs b h.2 C) (fun x => it_st h.1.2 _ x)
  | .whil c b p, X, W, sc, k, lm, h, C => by
    unfold okS at h
    rw [Bool.and_eq_true] at h
    exact q_whil C.s P.wf (soT c h.1 C.toCxF) (soSs b h.2 C)
  | .ret e p, X, W, sc, k, lm, h, C => by
    unfold okS at h
    exact q_ret (soE e h C.toCxF)
  | .retN p, X, W, sc, k, lm, h, C => q_retN
  | .rais c x m j p1 p2 p3 p, X, W, sc, k, lm, h, C => by
    unfold okS at h
    rw [Bool.and_eq_true, decide_eq_true_eq] at h
    exact q_rais C.toCxG (C.xv c x h.1 m j p1 p2 p3 (C.toCxF.gl h.2))
  | .pas p, X, W, sc, k, lm, h, C => q_pas
  | .brk p, X, W, sc, k, lm, h, C => q_brk
  | .cont p, X, W, sc, k, lm, h, C => q_cont
theorem soSs : ∀ (s : Stms) {X : Cx} {W : WX} {sc : Scope} {k : Nat} {lm : Bool}, okSs S lm sc s = true → CxB X q W P S sc k lm → SSs X q W (s.ev P) s.py
  | .nil, X, W, sc, k, lm, h, C => ss_nil
  | .cons s r, X, W, sc, k, lm, h, C => by
    unfold okSs at h
    rw [Bool.and_eq_true] at h
    exact ss_cons (soS s h.1 C) (soSs r h.2 C)
end
end
end Lt
end
section
set_option Elab.async false
set_option linter.all false
set_option maxRecDepth 100000
set_option maxHeartbeats 1000000
/-! Lt: the defs, level by level. -/
namespace Lt
open PySem PySem.Spec PyProof.Rows L2
def PN (T : Nat → Option Fn) (gl : Nat → Option E) (rf : Nat → Nat → Bool) (wf n : Nat) : Par := ⟨callF T gl rf wf n, gl, rf, wf⟩
def lamQ (x : Str) (sc : Scope) : Str := (envOfC x sc 0 0 .none).qual ++ "<lambda>"
section
variable {K : PySem.W.Frag} {m m2 m3 : Mp} {H H2 : Hp} {L : Nat}
/-- a value without references is one in any heap of the same tuples -/
theorem E.dats_none {e : E} {es : List E} (h : E.dats (e :: es) ≠ none) : e.dat ≠ none ∧ E.dats es ≠ none := by
  unfold E.dats at h
  cases q1 : e.dat with
  | none => rw [q1] at h; exact absurd rfl h
  | some d =>
    cases q2 : E.dats es with
    | none => rw [q1, q2] at h; exact absurd rfl h
    | some ds => exact ⟨fun z => (by cases z), fun z => (by cases z)⟩
mutual
theorem RV.free : ∀ {x : E} {v : V}, RV K m H x v → x.dat ≠ none → RV K m2 H x v
  | _, _, .non, _ => .non
  | _, _, .bl b, _ => .bl b
  | _, _, .int i, _ => .int i
  | _, _, .str x, _ => .str x
  | _, _, .tup h r, q => .tup h (RVs.free r fun z => q (by unfold E.dat; rw [z]; rfl))
  | _, _, .ref h, q => absurd (by unfold E.dat; rfl) q
theorem RVs.free : ∀ {x : List E} {v : List V}, RVs K m H x v → E.dats x ≠ none → RVs K m2 H x v
  | _, _, .nil, _ => .nil
  | _, _, .cons h r, q => .cons (RV.free h (E.dats_none q).1) (RVs.free r (E.dats_none q).2)
end
mutual
theorem RV.cutL (hm : ∀ n a, m n = some a → n < L) : ∀ {x : E} {v v2 : V}, RV K m H x v → RV K m2 H2 x v2 → RV K (fun n => if n < L then m2 n else none) H2 x v2
  | _, _, _, .non, .non => .non
  | _, _, _, .bl b, .bl _ => .bl b
  | _, _, _, .int i, .int _ => .int i
  | _, _, _, .str x, .str _ => .str x
  | _, _, _, .tup _ r, .tup h2 r2 => .tup h2 (RVs.cutL hm r r2)
  | _, _, _, .ref h, .ref h2 => .ref (by rw [if_pos (hm _ _ h)]; exact h2)
theorem RVs.cutL (hm : ∀ n a, m n = some a → n < L) : ∀ {x : List E} {v v2 : List V}, RVs K m H x v → RVs K m2 H2 x v2 → RVs K (fun n => if n < L then m2 n else none) H2 x v2
  | _, _, _, .nil, .nil => .nil
  | _, _, _, .cons h r, .cons h2 r2 => .cons (RV.cutL hm h h2) (RVs.cutL hm r r2)
end
theorem RKs.cutL (hm : ∀ n a, m n = some a → n < L) : ∀ {x : List (Str × E)} {v v2 : List (Key × V)}, RKs K m H x v → RKs K m2 H2 x v2 → RKs K (fun n => if n < L then m2 n else none) H2 x v2
  | _, _, _, .nil, .nil => .nil
  | _, _, _, .cons h r, .cons h2 r2 => .cons (RV.cutL hm h h2) (RKs.cutL hm r r2)
theorem ObR.cutL {a a2 : Addr} {o : Ob} (hm : ∀ n a, m n = some a → n < L) (r : ObR K m H a o) (r2 : ObR K m2 H2 a2 o) : ObR K (fun n => if n < L then m2 n else none) H2 a2 o := by
  cases o with
  | lst es => obtain ⟨vs, _, x⟩ := r; obtain ⟨ws, e, y⟩ := r2; exact ⟨ws, e, RVs.cutL hm x y⟩
  | rol es => obtain ⟨vs, _, x⟩ := r; obtain ⟨ws, e, y⟩ := r2; exact ⟨ws, e, RVs.cutL hm x y⟩
  | dct kvs => obtain ⟨vs, _, x⟩ := r; obtain ⟨ws, e, y⟩ := r2; exact ⟨ws, e, RKs.cutL hm x y⟩
end
theorem take_get {G G' : Hq} (h : hqEqb (G'.take G.length) G = true) {n : Nat} {o : Ob} (hn : G[n]? = some o) : G'[n]? = some o := by
  have e := hqEqb_eq h
  rw [← e] at hn
  rw [List.getElem?_take] at hn
  split at hn
  · exact hn
  · cases hn
/-- a pure def's end -/
theorem pure_end {D : Wd} {W : WX} {σ : L2.St} {m : Mp} {H : Hp} {G G' : Hq} {v : E} {Q : V → Hp → Prop} {b : Bool} (M : MtG D m H G) (F : Fin D W σ m H (retP b G v G') (RV D.K) Q) :
    ∀ m' v' H', Ext m H m' H' → MtG D m' H' G' → RV D.K m' H' v v' → Q v' H' := by
  intro m' v' H' e M' r
  cases b with
  | false => exact F m' v' H' e M' r
  | true =>
    unfold retP at F
    rw [if_pos rfl] at F
    split at F
    · rename_i hc
      rw [Bool.and_eq_true] at hc
      refine F (fun n => if n < G.length then m' n else none) v' H' ?_ ?_ (RV.free r fun z => (by rw [z] at hc; cases hc.2))
      · refine ⟨fun n a h => ?_, e.stay, e.tups, fun n a h => ?_, e.there⟩
        · show (if n < G.length then m' n else none) = some a
          rw [if_pos (M.cod n a h)]
          exact e.mono n a h
        · by_cases hn : n < G.length
          · rw [show (if n < G.length then m' n else none) = m' n from if_pos hn] at h
            exact e.new n a h
          · rw [show (if n < G.length then m' n else none) = none from if_neg hn] at h
            cases h
      · refine ⟨fun n hn => ?_, fun n a h => ?_, fun n k a h1 h2 => ?_, fun n o a h1 h2 => ?_, M'.tab⟩
        · obtain ⟨a, ha⟩ := M.dom n hn
          exact ⟨a, by rw [if_pos hn]; exact e.mono n a ha⟩
        · by_cases hn : n < G.length
          · exact hn
          · rw [show (if n < G.length then m' n else none) = none from if_neg hn] at h
            cases h
        · have h1' : (if n < G.length then m' n else none) = some a := h1
          have h2' : (if k < G.length then m' k else none) = some a := h2
          split at h1' <;> first | cases h1' | skip
          split at h2' <;> first | cases h2' | skip
          exact M'.inj n k a (by assumption) (by assumption)
        · have hn : n < G.length := (List.getElem?_eq_some_iff.mp h1).1
          have h2' : (if n < G.length then m' n else none) = some a := h2
          rw [if_pos hn] at h2'
          obtain ⟨a0, ha0⟩ := M.dom n hn
          have o1 := M.obj n o a0 h1 ha0
          have o2 := M'.obj n o a (take_get hc.1 h1) h2'
          exact ObR.cutL M.cod o1 o2
    · exact F.elim
theorem MtE.start {K : PySem.W.Frag} {m : Mp} {H : Hp} {es : List E} {vs : List V} {N : List Str} {ns np : Nat} (r : RVs K m H es vs) (h1 : ns = N.length) (h2 : es.length = np) : MtE K m H (es.map some ++ List.replicate (ns - np) none) (L2.start N vs) := by
  refine ⟨?_, fun i e h => ?_⟩
  · unfold L2.start
    rw [List.length_append, List.length_append, List.length_map, List.length_map, List.length_replicate, List.length_replicate, h1, ← h2, r.length]
  · by_cases hi : i < es.length
    · rw [List.getElem?_append_left (by simpa using hi), List.getElem?_map] at h
      cases q : es[i]? with
      | none => rw [q] at h; cases h
      | some x =>
        rw [q] at h
        cases h
        obtain ⟨w, h1, h2⟩ := r.get q
        refine ⟨w, ?_, h2⟩
        unfold L2.start
        rw [List.getElem?_append_left (by rw [List.length_map, ← r.length]; exact hi), List.getElem?_map, h1]
        rfl
    · rw [List.getElem?_append_right (by simpa using hi), List.getElem?_replicate] at h
      split at h <;> cases h
/-! ### what the head tells -/
/-- names of a program -/
structure Pg where
  T : Nat → Option Fn
  gl : Nat → Option E
  rf : Nat → Nat → Bool
  wf : Nat
  gn : Nat → Option Str
  fn : Nat → Option (Str × Nat)
  rn : Nat → Option Str
  xn : Nat → Option Str
def Pg.sg (G : Pg) (N : List Str) : Sg := ⟨N, G.gn, G.fn, G.rn, G.xn⟩
def Pg.par (G : Pg) (n : Nat) : Par := ⟨callF G.T G.gl G.rf G.wf n, G.gl, G.rf, G.wf⟩
/-- a def -/
def FnHyp (K : PySem.W.Frag) (mg : Str → Option Value) (base : Heap) (q : Wq) (G : Pg) (f : Nat) (x : Str) (np : Nat) : Prop :=
  ∃ (a : Addr) (fd : FuncData) (params : Arguments) (scope : Scope) (N ps : List Str) (fn : Fn) (lm : Bool),
    mg x = some (.ref a) ∧ FunD K x x params fn.body.py scope [] [] a fd ∧ L2.Binds K fd ps [] ∧ (x == ("__debug__" : Str)) = false ∧ FnScope N ps scope ∧ G.T f = some fn ∧ fn.np = np ∧ fn.ns = N.length ∧ ps.length = np ∧
    okSs (G.sg N) lm scope fn.body = true ∧
    (lm = true → ∃ c Pt, fd.code = .ref c ∧ LamX.TabB base mg c Pt ∧ (Pt, lamQ x scope) ∈ q.T ∧ ∀ p ∈ q.T, p.1 = Pt → p.2 = lamQ x scope)
structure PgHyp (K : PySem.W.Frag) (mg : Str → Option Value) (base : Heap) (q : Wq) (G : Pg) : Prop where
  bn : ∀ x ∈ bltN, mg x = none
  gv : ∀ j v x, G.gl j = some v → G.gn j = some x → ∃ u v', mg x = some u ∧ RelV v' u ∧ ∀ m H, RV K m H v v'
  xv : ∀ c x, G.xn c = some x → ∃ C, q.xc c = .ref C ∧ mg x = some (.ref C) ∧ PySem.W.excIn K C He.veBase "ValueError.__new__" = true ∧ PySem.W.keepIn K (.ref C) = true ∧ PySem.W.subIn K (.ref C) (.type "BaseException") = some true ∧ PySem.W.typeIn K (.ref C) = some (.type "type") ∧ (x == ("__debug__" : Str)) = false
  rv : ∀ g x, G.rn g = some x → RefF K mg q G.rf g x
  fv : ∀ f x np, G.fn f = some (x, np) → FnHyp K mg base q G f x np
section
variable {prog : Program} {w : World} {K : PySem.W.Frag} {mg : Str → Option Value} {base : Heap} {q : Wq} {G : Pg}
/-- what a level promises -/
def LevOk (prog : Program) (w : World) (K : PySem.W.Frag) (mg : Str → Option Value) (base : Heap) (q : Wq) (G : Pg) (n : Nat) : Prop := ∀ f x np, G.fn f = some (x, np) → ∃ a fd ps, mg x = some (.ref a) ∧ PySem.W.keepIn K (.ref a) = true ∧ L2.Binds K fd ps [] ∧ ps.length = np ∧ (x == ("__debug__" : Str)) = false ∧
    FnOk prog w K mg base (CX prog w) (3 * n) a fd ps (spF K q (G.par n) f np)
theorem fn_step (hyp : PgHyp K mg base q G) {n : Nat} (ih : LevOk prog w K mg base q G n) {f : Nat} {x : Str} {np : Nat} {a : Addr} {fd : FuncData} {params : Arguments} {scope : Scope} {N ps : List Str} {fn : Fn} {lm : Bool}
    (h2 : FunD K x x params fn.body.py scope [] [] a fd) (h5 : FnScope N ps scope) (h6 : G.T f = some fn) (h7 : fn.np = np) (h8 : fn.ns = N.length) (h9 : ps.length = np) (h10 : okSs (G.sg N) lm scope fn.body = true)
    (h11 : lm = true → ∃ c Pt, fd.code = .ref c ∧ LamX.TabB base mg c Pt ∧ (Pt, lamQ x scope) ∈ q.T ∧ ∀ p ∈ q.T, p.1 = Pt → p.2 = lamQ x scope) :
    FnOk prog w K mg base (CX prog w) (3 * (n + 1)) a fd ps (spF K q (G.par (n + 1)) f np) := by
  obtain ⟨oc, od, dV, kV, doc, pm, an, cdv, ct, osl, rfl, lk, hcd, _, _⟩ := h2.ex
  refine fn_of (k := 3 * n + 2) lk hcd h5 (fun vs H Q E hs => hs.1.trans h9.symm) fun A outer s H vs Q E hr hs => ?_
  obtain ⟨hl, m, es, G1, rvs, M, F⟩ := hs
  have C : CxB (cxOf (CX prog w) prog w K mg base N x scope a cdv A outer s H E) q (fun cls d _ H' => E cls d H') (G.par n) (G.sg N) scope (3 * n) lm := {
    calm := rfl
    nd := h5.nd
    tk := takes_of rfl rfl rfl rfl
    un := by
      have := hr.un
      show (A.deeper (envOfC x scope s.heap.objs.size a cdv)).units + 100 < cLine
      omega
    N := rfl
    sc := rfl
    rm := hr.mono (by omega)
    bn := hyp.bn
    gv := hyp.gv
    fv := fun f x np h => ih f x np h
    lv := fun hlm => by
      obtain ⟨c, Pt, e1, e2, e3, e4⟩ := h11 hlm
      exact ⟨hr, ⟨c, Pt, e2, e1, e3, e4⟩, hyp.rv⟩
    po := passes_of rfl
    fnt := fun _ => rfl
    xv := fun c y hc mm j p p2 pos hg => by
      obtain ⟨C, e1, e2, e3, e4, e5, e6, e7⟩ := hyp.xv c y hc
      rw [e1]
      exact pmk_own PySem.F.excBase_ValueError e3 e2 e4 (raises_own e5 e6) hg e7 }
  have ME : MtE K m H (es.map some ++ List.replicate (fn.ns - fn.np) none) (L2.start N vs) := MtE.start rvs h8 (by rw [rvs.length, hl, h7])
  have key := soSs fn.body h10 C (es.map some ++ List.replicate (fn.ns - fn.np) none) G1 (L2.start N vs) H m { nx := fun _ H' => Q .non H', rt := Q } ME M
  unfold wSs at key
  refine key ?_
  have F2 : Fin ⟨K, q.T, q.xc⟩ (fun cls d _ H' => E cls d H') [] m H (endR fn.pure G1 (fn.body.ev (G.par n) (es.map some ++ List.replicate (fn.ns - fn.np) none) G1)) (RV K) Q := by
    have : callF G.T G.gl G.rf G.wf (n + 1) f es G1 = endR fn.pure G1 (fn.body.ev (G.par n) (es.map some ++ List.replicate (fn.ns - fn.np) none) G1) := by
      show (match G.T f with | some fn => _ | none => _) = _
      rw [h6]
      show (if es.length = fn.np then _ else _) = _
      rw [if_pos (by rw [rvs.length, hl, h7])]
      rfl
    rw [← this]
    exact F
  generalize hr0 : fn.body.ev (G.par n) (es.map some ++ List.replicate (fn.ns - fn.np) none) G1 = r at F2 ⊢
  cases r with
  | nx ρ' G' => exact fun m' σ' H' e' M' N' => pure_end M F2 m' .non H' e' M' .non
  | rt v G' => exact pure_end M F2
  | bk ρ' G' => exact F2.elim
  | ct ρ' G' => exact F2.elim
  | ex c ρ' G' => exact fun m' σ' H' d e' M' N' => F2 m' H' d e' M'
  | bad => exact F2.elim
theorem fns_ok (hyp : PgHyp K mg base q G) : ∀ n, LevOk prog w K mg base q G n
  | 0, f, x, np, h => by
    obtain ⟨a, fd, params, scope, N, ps, fn, lm, h1, h2, h3, h4, h5, h6, h7, h8, h9, h10, h11⟩ := hyp.fv f x np h
    exact ⟨a, fd, ps, h1, h2.kp, h3, h9, h4, fun vs H Q E hs => hs.1.trans h9.symm, fun A outer s H args us vs Q E hr e0 hb r hs => by
      obtain ⟨_, m, es, G1, _, _, F⟩ := hs
      exact F.elim⟩
  | n + 1, f, x, np, h => by
    obtain ⟨a, fd, params, scope, N, ps, fn, lm, h1, h2, h3, h4, h5, h6, h7, h8, h9, h10, h11⟩ := hyp.fv f x np h
    exact ⟨a, fd, ps, h1, h2.kp, h3, h9, h4, fn_step hyp (fns_ok hyp n) h2 h5 h6 h7 h8 h9 h10 h11⟩
/-- the law -/
theorem law_at {l : PySem.W.OpenLaw} {w : World} {n k fL : Nat} {x lx : Str} {fa : Addr} {h : Heap} {cs : List (Addr × Addr)} {fd : FuncData} {params : Arguments} {scope : Scope} {N : List Str} {fn : Fn} {lm : Bool}
    (hyp : ∀ base : Heap, K.In base → base.Ns mainGlobals mg → (∀ p ∈ cs, LamX.TabB base mg p.1 p.2) → PgHyp K mg base q G)
    (c1 : ∀ p ∈ cs, h.get? p.2 = some { cls := .none, data := .fields #[] }) (c2 : ∀ p ∈ cs, K.lookup p.2 = none) (c3 : ∀ p ∈ cs, PySem.W.CodeHd h p.1 p.2) (hq : ∀ t ∈ q.T, ∃ p ∈ cs, p.2 = t.1)
    (hb : ∀ (s : Shared) (u : Value), BindsTo s fd ⟨[u], []⟩ [(x, u)]) (hnl : ∀ a o, K.lookup a = some o → o.cls ≠ .type "list")
    (h2 : FunD K lx lx params fn.body.py scope [] [] fa fd) (h5 : FnScope N [x] scope) (h6 : G.T fL = some fn) (h7 : fn.np = 1) (h8 : fn.ns = N.length) (h10 : okSs (G.sg N) lm scope fn.body = true)
    (h11 : ∀ base : Heap, (∀ p ∈ cs, LamX.TabB base mg p.1 p.2) → lm = true → ∃ c Pt, fd.code = .ref c ∧ LamX.TabB base mg c Pt ∧ (Pt, lamQ lx scope) ∈ q.T ∧ ∀ p ∈ q.T, p.1 = Pt → p.2 = lamQ lx scope)
    (hlaw : ∀ ns : List Int, ns.length ≤ n → (∀ z ∈ ns, Builtin.Int.intBits z ≤ 1048576) → ∃ G', callF G.T G.gl G.rf G.wf (k + 1) fL [.ref 0] [.rol (ns.map E.int)] = .ok (.bl true) G') :
    LamX.LawAtS l w K (CX l.prog w) (3 * (k + 1)) n x mg fa h := by
  refine ⟨fd, cs, spF K q (G.par (k + 1)) fL 1, c1, c2, c3, hb, fun H a ns hl hbits hT hS => ?_, fun base KX GX TB => fn_step (hyp base KX GX TB) (fns_ok (hyp base KX GX TB) k) h2 h5 h6 h7 h8 rfl h10 (h11 base TB)⟩
  have hS : Rd H a (.lst (ns.map V.int)) := by
    rcases hS with hS | ⟨o, its, nn, e1, e2, _⟩
    · exact hS
    · exact absurd e2 (hnl a o e1)
  obtain ⟨G', hG⟩ := hlaw ns hl hbits
  have rints : ∀ (m : Mp) (l : List Int), RVs K m H (l.map E.int) (l.map V.int) := fun m l => by
    induction l with
    | nil => exact .nil
    | cons z l ih => exact .cons (.int z) ih
  refine ⟨rfl, fun n => if n = 0 then some a else none, [.ref 0], [.rol (ns.map E.int)], .cons (.ref rfl) .nil, ?_, ?_⟩
  · refine ⟨fun n hn => ⟨a, if_pos (by simpa using hn)⟩, fun n b h => ?_, fun i j b h1 h2 => ?_, fun n o b h1 h2 => ?_, fun t ht => ?_⟩
    · by_cases e : n = 0
      · subst e; simp
      · rw [show (if n = 0 then some a else none) = none from if_neg e] at h; cases h
    · by_cases e : i = 0
      · by_cases e2 : j = 0
        · omega
        · rw [show (if j = 0 then some a else none) = none from if_neg e2] at h2; cases h2
      · rw [show (if i = 0 then some a else none) = none from if_neg e] at h1; cases h1
    · by_cases e : n = 0
      · subst e
        cases h1
        have eb : a = b := by simpa using h2
        subst eb
        exact ⟨_, hS, rints _ ns⟩
      · rw [show (if n = 0 then some a else none) = none from if_neg e] at h2; cases h2
    · obtain ⟨p, hp, e⟩ := hq t ht
      exact LamX.TabS.nil (by rw [← e]; exact hT p hp)
  · show Fin _ _ _ _ _ (callF G.T G.gl G.rf G.wf (k + 1) fL [.ref 0] [.rol (ns.map E.int)]) _ _
    rw [hG]
    intro m' v' H' _ _ r
    cases r
    rfl
end
end Lt
end
section
set_option Elab.async false
set_option linter.all false
set_option maxRecDepth 100000
/-! Lt: how its meaning is worked out: rewriting rules. -/
namespace Lt
open PySem L2
section
variable {P : Par} {ρ : Ro} {H : Hq}
@[simp] theorem v_var {i : Nat} {v : E} (h : ρ[i]? = some (some v)) : sVar i ρ H = .ok v H := by simp only [sVar, h]
@[simp] theorem v_c {v : E} : sC v ρ H = .ok v H := rfl
@[simp] theorem v_bin {o : BOp} {a b : Sx E} : sBin o a b ρ H = (a ρ H).bind fun x G1 => (b ρ G1).bind fun y G2 => optR (binop o x y) G2 := rfl
@[simp] theorem v_cmp {o : COp} {a b : Sx E} : sCmp o a b ρ H = (a ρ H).bind fun x G1 => (b ρ G1).bind fun y G2 => optR (cmpop o x y) G2 := rfl
@[simp] theorem v_bl {a : Sx Bool} : sBl a ρ H = (a ρ H).bind fun b G1 => .ok (.bl b) G1 := rfl
@[simp] theorem v_isN {a : Sx E} : sIsN a ρ H = (a ρ H).bind fun x G1 => .ok (isNon x) G1 := rfl
@[simp] theorem v_ntN {a : Sx E} : sNtN a ρ H = (a ρ H).bind fun x G1 => .ok (!isNon x) G1 := rfl
@[simp] theorem v_not {a : Sx Bool} : sNot a ρ H = (a ρ H).bind fun b G1 => .ok (!b) G1 := rfl
@[simp] theorem v_tru {a : Sx E} : sTru a ρ H = (a ρ H).bind fun x G1 => optR (truthy x) G1 := rfl
@[simp] theorem v_asB {a : Sx E} : sAsB a ρ H = (a ρ H).bind fun x G1 => optR (asB x) G1 := rfl
@[simp] theorem v_and {a b : Sx Bool} : sAnd a b ρ H = (a ρ H).bind fun x G1 => if x then b ρ G1 else .ok false G1 := rfl
@[simp] theorem v_or {a b : Sx Bool} : sOr a b ρ H = (a ρ H).bind fun x G1 => if x then .ok true G1 else b ρ G1 := rfl
@[simp] theorem v_if {c : Sx Bool} {a b : Sx E} : sIf c a b ρ H = (c ρ H).bind fun x G1 => if x then a ρ G1 else b ρ G1 := rfl
@[simp] theorem v_tup {a : Sx (List E)} : sTup a ρ H = (a ρ H).bind fun xs G1 => if xs.length ≤ sizeLine then .ok (.tup xs) G1 else .bad := rfl
@[simp] theorem v_nil : sNil ρ H = .ok [] H := rfl
@[simp] theorem v_cons {a : Sx E} {r : Sx (List E)} : sCons a r ρ H = (a ρ H).bind fun x G1 => (r ρ G1).bind fun xs G2 => .ok (x :: xs) G2 := rfl
@[simp] theorem v_sub {a i : Sx E} : sSub a i ρ H = (a ρ H).bind fun x G1 => (i ρ G1).bind fun y G2 => optR (subE G2 x y) G2 := rfl
@[simp] theorem v_onone : sOnone ρ H = .ok none H := rfl
@[simp] theorem v_osome {a : Sx E} : sOsome a ρ H = (a ρ H).bind fun x G1 => match x with
  | .int i => .ok (some i) G1
  | _ => .bad := rfl
@[simp] theorem v_slice {a : Sx E} {lo hi : Sx (Option Int)} : sSlice a lo hi ρ H = (a ρ H).bind fun x G1 => (lo ρ G1).bind fun l G2 => (hi ρ G2).bind fun h G3 => optR (cutE l h x) G3 := rfl
@[simp] theorem v_call {f : Nat} {a : Sx (List E)} : sCall P f a ρ H = (a ρ H).bind fun xs G1 => P.cl f xs G1 := rfl
@[simp] theorem v_glb {j : Nat} : sGlb P j ρ H = optR (P.gl j) H := rfl
@[simp] theorem v_ofE {a : Sx E} : sOfE a ρ H = (a ρ H).bind fun x G1 => match x with
  | .ref n => if (LH.get G1 (.pl n)).isSome then .ok (.pl n) G1 else .bad
  | _ => .bad := rfl
@[simp] theorem v_disp {a : Sx (List E)} : sDisp a ρ H = (a ρ H).bind fun xs G1 => if xs.length ≤ sizeLine then .ok (.tmp xs) G1 else .bad := rfl
@[simp] theorem v_cat {a b : Sx LH} : sCat a b ρ H = (a ρ H).bind fun x G1 => (b ρ G1).bind fun y G2 => (optR (x.getM G2) G2).bind fun xs _ => (optR (y.getM G2) G2).bind fun ys _ => if xs.length + ys.length ≤ sizeLine then .ok (.tmp (xs ++ ys)) G2 else .bad := rfl
@[simp] theorem v_bi1 {b : B1} {a : Sx E} : sBi1 b a ρ H = (a ρ H).bind fun x G1 => optR (bi1E G1 b x) G1 := rfl
@[simp] theorem v_biL {b : BL} {l : Sx LH} : sBiL b l ρ H = (l ρ H).bind fun x G1 => (optR (x.get G1) G1).bind fun xs _ => optR (biLE b xs) G1 := rfl
@[simp] theorem v_isi {t : TyN} {a : Sx E} : sIsi t a ρ H = (a ρ H).bind fun x G1 => (optR (isiE t x) G1).bind fun b _ => .ok (.bl b) G1 := rfl
@[simp] theorem v_inS {a b : Sx E} : sInS a b ρ H = (a ρ H).bind fun x G1 => (b ρ G1).bind fun y G2 => optR (inSE x y) G2 := rfl
@[simp] theorem v_sidx {a b : Sx E} : sSidx a b ρ H = (a ρ H).bind fun x G1 => match x with
  | .str z => (b ρ G1).bind fun y G2 => optR (sidxE (.str z) y) G2
  | _ => .bad := rfl
@[simp] theorem v_join {a : Sx E} {l : Sx LH} : sJoin a l ρ H = (a ρ H).bind fun x G1 => match x with
  | .str z => (l ρ G1).bind fun y G2 => (optR (y.get G2) G2).bind fun xs _ => optR (joinE (.str z) xs) G2
  | _ => .bad := rfl
@[simp] theorem v_subL {l : Sx LH} {i : Sx E} : sSubL l i ρ H = (l ρ H).bind fun x G1 => (i ρ G1).bind fun y G2 => (optR (x.get G2) G2).bind fun xs _ => (optR (intE y) G2).bind fun j _ => optR (atI xs j) G2 := rfl
@[simp] theorem v_new {l : Sx LH} : sNew l ρ H = (l ρ H).bind fun x G1 => match x with
  | .tmp xs => .ok (.ref G1.length) (G1 ++ [.lst xs])
  | .pl _ => .bad := rfl
@[simp] theorem v_dct {ks : List Str} {a : Sx (List E)} : sDct ks a ρ H = (a ρ H).bind fun xs G1 => if decide (ks.length = xs.length) && decide (ks ≠ []) && decide (ks.length ≤ 15) && decide ks.Nodup then .ok (.ref G1.length) (G1 ++ [.dct (ks.zip xs)]) else .bad := rfl
@[simp] theorem v_lenSet {a : Sx E} : sLenSet a ρ H = (a ρ H).bind fun x G1 => optR (lenSetE x) G1 := rfl
@[simp] theorem v_yes : sYes ρ H = .ok true H := rfl
@[simp] theorem v_itL {l : Sx LH} : sItL l ρ H = (l ρ H).bind fun x G1 => (optR (x.get G1) G1).bind fun xs _ => .ok (xs, match x with | .tmp _ => none | .pl n => some n) G1 := rfl
@[simp] theorem v_itA {a : Sx E} : sItA a ρ H = (a ρ H).bind fun x G1 => optR (itE G1 x) G1 := rfl
@[simp] theorem v_itR1 {a : Sx E} : sItR1 a ρ H = (a ρ H).bind fun x G1 => (optR (intE x) G1).bind fun j _ => if in62 j then .ok (rng 0 j.toNat, none) G1 else .bad := rfl
@[simp] theorem v_itR2 {a b : Sx E} : sItR2 a b ρ H = (a ρ H).bind fun x G1 => (b ρ G1).bind fun y G2 => (optR (intE x) G2).bind fun i _ => (optR (intE y) G2).bind fun j _ => if in62 i && in62 j then .ok (rng i (j - i).toNat, none) G2 else .bad := rfl
@[simp] theorem v_lc {it : Sx (List E × Option Nat)} {tg : Tg} {c : Sx Bool} {e : Sx E} {own : List Nat} : sLc it tg c e own ρ H = (it ρ H).bind fun xs G1 => (lcS xs.2 xs.1 tg c e (wipeR ρ own) xs.1 [] G1).bind fun ys G2 => .ok (.tmp ys) G2 := rfl
/-! statements -/
@[simp] theorem q_v_asg {t : Tg} {e : Sx E} : qAsg t e ρ H = (e ρ H).st ρ fun v G1 => match t.set v ρ with
  | some ρ1 => .nx ρ1 G1
  | none => .bad := rfl
@[simp] theorem q_v_par {i j : Nat} {a b : Sx E} : qPar i j a b ρ H = (a ρ H).st ρ fun v G1 => (b ρ G1).st ρ fun w G2 => .nx ((ρ.set i (some v)).set j (some w)) G2 := rfl
theorem q_v_aug {o : BOp} {i : Nat} {e : Sx E} {x : E} (h : ρ[i]? = some (some x)) : qAug o i e ρ H = (e ρ H).st ρ fun y G1 => match augop o x y with
    | some z => .nx (ρ.set i (some z)) G1
    | none => .bad := by
  unfold qAug
  rw [h]
  all_goals rfl
@[simp] theorem q_v_setD {o k e : Sx E} : qSetD o k e ρ H = (e ρ H).st ρ fun v G1 => (o ρ G1).st ρ fun x G2 => (k ρ G2).st ρ fun y G3 => match x, y with
  | .ref n, .str s => (match G3[n]? with
    | some (.dct kvs) => if kvs.length < sizeLine then .nx ρ (G3.set n (.dct (putS kvs s v))) else .bad
    | _ => .bad)
  | _, _ => .bad := rfl
@[simp] theorem q_v_expr {e : Sx E} : qExpr e ρ H = (e ρ H).st ρ fun _ G1 => .nx ρ G1 := rfl
@[simp] theorem q_v_app {o e : Sx E} : qApp o e ρ H = (o ρ H).st ρ fun x G1 => match x with
  | .ref n => if (LH.get G1 (.pl n)).isSome then ((e ρ G1).st ρ fun v G2 => match G2[n]? with
    | some (.lst xs) => if xs.length < sizeLine then .nx ρ (G2.set n (.lst (xs ++ [v]))) else .bad
    | _ => .bad) else .bad
  | _ => .bad := rfl
@[simp] theorem q_v_if {c : Sx Bool} {a b : Ss} : qIf c a b ρ H = (c ρ H).st ρ fun x G1 => if x then a ρ G1 else b ρ G1 := rfl
@[simp] theorem q_v_for {tg : Tg} {it : Sx (List E × Option Nat)} {b : Ss} : qFor tg it b ρ H = (it ρ H).st ρ fun xs G1 => forS xs.2 xs.1 tg b xs.1 ρ G1 := rfl
@[simp] theorem q_v_ret {e : Sx E} : qRet e ρ H = (e ρ H).st ρ fun v G1 => .rt v G1 := rfl
/-! operators -/
@[simp] theorem o_add {i j : Int} : binop .add (.int i) (.int j) = some (.int (i + j)) := rfl
@[simp] theorem o_sub {i j : Int} : binop .sub (.int i) (.int j) = some (.int (i - j)) := rfl
theorem o_mul {i j : Int} (h : mulOk i j = true) : binop .mul (.int i) (.int j) = some (.int (i * j)) := if_pos h
theorem o_mod {i j : Int} (h : 0 < j) : binop .mod (.int i) (.int j) = some (.int (i % j)) := by
  show (if j ≠ 0 then some (E.int (i.fmod j)) else none) = _
  rw [if_pos (by omega), Int.fmod_eq_emod_of_nonneg _ (by omega)]
theorem o_fdiv {i j : Int} (h : 0 < j) (h2 : j < 1073741824) : binop .fdiv (.int i) (.int j) = some (.int (i / j)) := by
  show (if j ≠ 0 ∧ j.natAbs < 1073741824 then some (E.int (i.fdiv j)) else none) = _
  rw [if_pos ⟨by omega, by omega⟩, Int.fdiv_eq_ediv_of_nonneg _ (by omega)]
theorem o_addT {xs ys : List E} (h : xs.length + ys.length ≤ 16777216) : binop .add (.tup xs) (.tup ys) = some (.tup (xs ++ ys)) := by
  show (if xs.length + ys.length ≤ sizeLine then some (E.tup (xs ++ ys)) else none) = _
  rw [if_pos (by rw [sizeLine_eq]; exact h)]
theorem o_mulT {xs : List E} {k : Int} (h : xs ≠ [] ∧ 2 ≤ k ∧ k ≤ 10000 ∧ xs.length ≤ 1000) : binop .mul (.tup xs) (.int k) = some (.tup (List.replicate k.toNat xs).flatten) := if_pos h
@[simp] theorem c_lt {i j : Int} : cmpop .lt (.int i) (.int j) = some (decide (i < j)) := rfl
@[simp] theorem c_le {i j : Int} : cmpop .le (.int i) (.int j) = some (decide (i ≤ j)) := rfl
@[simp] theorem c_gt {i j : Int} : cmpop .gt (.int i) (.int j) = some (decide (i > j)) := rfl
@[simp] theorem c_ge {i j : Int} : cmpop .ge (.int i) (.int j) = some (decide (i ≥ j)) := rfl
theorem c_eqI {i j : Int} : cmpop .eq (.int i) (.int j) = some (decide (i = j)) := by
  show eqE (.int i) (.int j) = _
  unfold eqE
  simp only [E.dat]
  rw [if_pos (.inl (by show (0 : Nat) ≤ 64; omega))]
  rfl
@[simp] theorem a_add {i j : Int} : augop .add (.int i) (.int j) = some (.int (i + j)) := rfl
theorem a_mul {i j : Int} (h : mulOk i j = true) : augop .mul (.int i) (.int j) = some (.int (i * j)) := if_pos h
theorem a_fdiv {i j : Int} (h : 0 < j) (h2 : j < 1073741824) : augop .fdiv (.int i) (.int j) = some (.int (i / j)) := if_pos ⟨h, h2⟩
/-! heaps -/
theorem get_new {H : Hq} {o : Ob} : (H ++ [o])[H.length]? = some o := by simp
theorem set_new {H : Hq} {o u : Ob} : (H ++ [o]).set H.length u = H ++ [u] := by simp
theorem getL_new {H : Hq} {xs : List E} : LH.get (H ++ [.lst xs]) (.pl H.length) = some xs := by simp [LH.get]
theorem getM_new {H : Hq} {xs : List E} : LH.getM (H ++ [.lst xs]) (.pl H.length) = some xs := by simp [LH.getM]
@[simp] theorem getL_tmp {H : Hq} {xs : List E} : LH.get H (.tmp xs) = some xs := rfl
@[simp] theorem getM_tmp {H : Hq} {xs : List E} : LH.getM H (.tmp xs) = some xs := rfl
end
/-! data that equal themselves -/
mutual
theorem eqv_self : ∀ {x : E} {d : PyData}, x.dat = some d → PyData.eqv d d = true
  | .non, _, h => by cases h; rfl
  | .bl b, _, h => by cases h; show (b == b) = true; simp
  | .int i, _, h => by cases h; show (i == i) = true; simp
  | .str z, _, h => by cases h; show (z == z) = true; simp
  | .tup es, d, h => by
    unfold E.dat at h
    cases q : E.dats es with
    | none => rw [q] at h; cases h
    | some ds =>
      rw [q] at h
      cases h
      exact eqvs_self q
  | .ref _, _, h => by cases h
theorem eqvs_self : ∀ {x : List E} {ds : List PyData}, E.dats x = some ds → PyData.eqvAll ds ds = true
  | [], _, h => by cases h; rfl
  | e :: es, _, h => by
    unfold E.dats at h
    cases q : e.dat with
    | none => rw [q] at h; cases h
    | some d =>
      rw [q] at h
      cases q2 : E.dats es with
      | none => rw [q2] at h; cases h
      | some ds =>
        rw [q2] at h
        cases h
        show (PyData.eqv d d && PyData.eqvAll ds ds) = true
        rw [eqv_self q, eqvs_self q2]
        rfl
end
mutual
/-- how deep -/
def E.dep : E → Nat
  | .tup es => E.deps es + 1
  | _ => 0
def E.deps : List E → Nat
  | [] => 0
  | e :: r => max e.dep (E.deps r)
end
mutual
theorem dep_dat : ∀ {x : E} {d : PyData}, x.dat = some d → d.depth = x.dep
  | .non, _, h => by cases h; rfl
  | .bl b, _, h => by cases h; rfl
  | .int i, _, h => by cases h; rfl
  | .str z, _, h => by cases h; rfl
  | .tup es, d, h => by
    unfold E.dat at h
    cases q : E.dats es with
    | none => rw [q] at h; cases h
    | some ds =>
      rw [q] at h
      cases h
      show PyData.depthAll ds + 1 = E.deps es + 1
      rw [deps_dat q]
  | .ref _, _, h => by cases h
theorem deps_dat : ∀ {x : List E} {ds : List PyData}, E.dats x = some ds → PyData.depthAll ds = E.deps x
  | [], _, h => by cases h; rfl
  | e :: es, _, h => by
    unfold E.dats at h
    cases q : e.dat with
    | none => rw [q] at h; cases h
    | some d =>
      rw [q] at h
      cases q2 : E.dats es with
      | none => rw [q2] at h; cases h
      | some ds =>
        rw [q2] at h
        cases h
        show max (PyData.depth d) (PyData.depthAll ds) = max e.dep (E.deps es)
        rw [dep_dat q, deps_dat q2]
end
theorem eqE_self {x : E} (h : x.dat.isSome = true) (hd : x.dep ≤ 64) : eqE x x = some true := by
  obtain ⟨d, e⟩ := Option.isSome_iff_exists.mp h
  unfold eqE
  rw [e]
  simp only []
  rw [if_pos (.inl (by rw [dep_dat e]; exact hd)), eqv_self e]
theorem ne_self {x : E} (h : x.dat.isSome = true) (hd : x.dep ≤ 64) : cmpop .ne x x = some false := by
  show (eqE x x).map (!·) = _
  rw [eqE_self h hd]
  rfl
theorem c_neI {i j : Int} : cmpop .ne (.int i) (.int j) = some (!decide (i = j)) := by
  show (eqE (.int i) (.int j)).map (!·) = _
  have := c_eqI (i := i) (j := j)
  rw [show eqE (.int i) (.int j) = cmpop .eq (.int i) (.int j) from rfl, this]
  rfl
/-! slots -/
section
variable {H : Hq}
theorem w0 {v : E} {l : Ro} : sVar 0 (some v :: l) H = .ok v H := rfl
theorem z0 {b v : Option E} {l : Ro} : List.set (b :: l) 0 v = v :: l := rfl
theorem y0 {b : Option E} {l : Ro} : (b :: l)[0]? = some b := rfl
theorem x0 {v : E} {l : Ro} {o : BOp} {e : Sx E} : qAug o 0 e (some v :: l) H = (e (some v :: l) H).st (some v :: l) fun y G1 => match augop o v y with
    | some z => .nx (some z :: l) G1
    | none => .bad := rfl
theorem w1 {a0 : Option E} {v : E} {l : Ro} : sVar 1 (a0 :: some v :: l) H = .ok v H := rfl
theorem z1 {a0 : Option E} {b v : Option E} {l : Ro} : List.set (a0 :: b :: l) 1 v = a0 :: v :: l := rfl
theorem y1 {a0 : Option E} {b : Option E} {l : Ro} : (a0 :: b :: l)[1]? = some b := rfl
theorem x1 {a0 : Option E} {v : E} {l : Ro} {o : BOp} {e : Sx E} : qAug o 1 e (a0 :: some v :: l) H = (e (a0 :: some v :: l) H).st (a0 :: some v :: l) fun y G1 => match augop o v y with
    | some z => .nx (a0 :: some z :: l) G1
    | none => .bad := rfl
theorem w2 {a0 a1 : Option E} {v : E} {l : Ro} : sVar 2 (a0 :: a1 :: some v :: l) H = .ok v H := rfl
theorem z2 {a0 a1 : Option E} {b v : Option E} {l : Ro} : List.set (a0 :: a1 :: b :: l) 2 v = a0 :: a1 :: v :: l := rfl
theorem y2 {a0 a1 : Option E} {b : Option E} {l : Ro} : (a0 :: a1 :: b :: l)[2]? = some b := rfl
theorem x2 {a0 a1 : Option E} {v : E} {l : Ro} {o : BOp} {e : Sx E} : qAug o 2 e (a0 :: a1 :: some v :: l) H = (e (a0 :: a1 :: some v :: l) H).st (a0 :: a1 :: some v :: l) fun y G1 => match augop o v y with
    | some z => .nx (a0 :: a1 :: some z :: l) G1
    | none => .bad := rfl
theorem w3 {a0 a1 a2 : Option E} {v : E} {l : Ro} : sVar 3 (a0 :: a1 :: a2 :: some v :: l) H = .ok v H := rfl
theorem z3 {a0 a1 a2 : Option E} {b v : Option E} {l : Ro} : List.set (a0 :: a1 :: a2 :: b :: l) 3 v = a0 :: a1 :: a2 :: v :: l := rfl
theorem y3 {a0 a1 a2 : Option E} {b : Option E} {l : Ro} : (a0 :: a1 :: a2 :: b :: l)[3]? = some b := rfl
theorem x3 {a0 a1 a2 : Option E} {v : E} {l : Ro} {o : BOp} {e : Sx E} : qAug o 3 e (a0 :: a1 :: a2 :: some v :: l) H = (e (a0 :: a1 :: a2 :: some v :: l) H).st (a0 :: a1 :: a2 :: some v :: l) fun y G1 => match augop o v y with
    | some z => .nx (a0 :: a1 :: a2 :: some z :: l) G1
    | none => .bad := rfl
theorem w4 {a0 a1 a2 a3 : Option E} {v : E} {l : Ro} : sVar 4 (a0 :: a1 :: a2 :: a3 :: some v :: l) H = .ok v H := rfl
theorem z4 {a0 a1 a2 a3 : Option E} {b v : Option E} {l : Ro} : List.set (a0 :: a1 :: a2 :: a3 :: b :: l) 4 v = a0 :: a1 :: a2 :: a3 :: v :: l := rfl
theorem y4 {a0 a1 a2 a3 : Option E} {b : Option E} {l : Ro} : (a0 :: a1 :: a2 :: a3 :: b :: l)[4]? = some b := rfl
theorem x4 {a0 a1 a2 a3 : Option E} {v : E} {l : Ro} {o : BOp} {e : Sx E} : qAug o 4 e (a0 :: a1 :: a2 :: a3 :: some v :: l) H = (e (a0 :: a1 :: a2 :: a3 :: some v :: l) H).st (a0 :: a1 :: a2 :: a3 :: some v :: l) fun y G1 => match augop o v y with
    | some z => .nx (a0 :: a1 :: a2 :: a3 :: some z :: l) G1
    | none => .bad := rfl
theorem w5 {a0 a1 a2 a3 a4 : Option E} {v : E} {l : Ro} : sVar 5 (a0 :: a1 :: a2 :: a3 :: a4 :: some v :: l) H = .ok v H := rfl
theorem z5 {a0 a1 a2 a3 a4 : Option E} {b v : Option E} {l : Ro} : List.set (a0 :: a1 :: a2 :: a3 :: a4 :: b :: l) 5 v = a0 :: a1 :: a2 :: a3 :: a4 :: v :: l := rfl
theorem y5 {a0 a1 a2 a3 a4 : Option E} {b : Option E} {l : Ro} : (a0 :: a1 :: a2 :: a3 :: a4 :: b :: l)[5]? = some b := rfl
theorem x5 {a0 a1 a2 a3 a4 : Option E} {v : E} {l : Ro} {o : BOp} {e : Sx E} : qAug o 5 e (a0 :: a1 :: a2 :: a3 :: a4 :: some v :: l) H = (e (a0 :: a1 :: a2 :: a3 :: a4 :: some v :: l) H).st (a0 :: a1 :: a2 :: a3 :: a4 :: some v :: l) fun y G1 => match augop o v y with
    | some z => .nx (a0 :: a1 :: a2 :: a3 :: a4 :: some z :: l) G1
    | none => .bad := rfl
theorem w6 {a0 a1 a2 a3 a4 a5 : Option E} {v : E} {l : Ro} : sVar 6 (a0 :: a1 :: a2 :: a3 :: a4 :: a5 :: some v :: l) H = .ok v H := rfl
theorem z6 {a0 a1 a2 a3 a4 a5 : Option E} {b v : Option E} {l : Ro} : List.set (a0 :: a1 :: a2 :: a3 :: a4 :: a5 :: b :: l) 6 v = a0 :: a1 :: a2 :: a3 :: a4 :: a5 :: v :: l := rfl
theorem y6 {a0 a1 a2 a3 a4 a5 : Option E} {b : Option E} {l : Ro} : (a0 :: a1 :: a2 :: a3 :: a4 :: a5 :: b :: l)[6]? = some b := rfl
theorem x6 {a0 a1 a2 a3 a4 a5 : Option E} {v : E} {l : Ro} {o : BOp} {e : Sx E} : qAug o 6 e (a0 :: a1 :: a2 :: a3 :: a4 :: a5 :: some v :: l) H = (e (a0 :: a1 :: a2 :: a3 :: a4 :: a5 :: some v :: l) H).st (a0 :: a1 :: a2 :: a3 :: a4 :: a5 :: some v :: l) fun y G1 => match augop o v y with
    | some z => .nx (a0 :: a1 :: a2 :: a3 :: a4 :: a5 :: some z :: l) G1
    | none => .bad := rfl
theorem w7 {a0 a1 a2 a3 a4 a5 a6 : Option E} {v : E} {l : Ro} : sVar 7 (a0 :: a1 :: a2 :: a3 :: a4 :: a5 :: a6 :: some v :: l) H = .ok v H := rfl
theorem z7 {a0 a1 a2 a3 a4 a5 a6 : Option E} {b v : Option E} {l : Ro} : List.set (a0 :: a1 :: a2 :: a3 :: a4 :: a5 :: a6 :: b :: l) 7 v = a0 :: a1 :: a2 :: a3 :: a4 :: a5 :: a6 :: v :: l := rfl
theorem y7 {a0 a1 a2 a3 a4 a5 a6 : Option E} {b : Option E} {l : Ro} : (a0 :: a1 :: a2 :: a3 :: a4 :: a5 :: a6 :: b :: l)[7]? = some b := rfl
theorem x7 {a0 a1 a2 a3 a4 a5 a6 : Option E} {v : E} {l : Ro} {o : BOp} {e : Sx E} : qAug o 7 e (a0 :: a1 :: a2 :: a3 :: a4 :: a5 :: a6 :: some v :: l) H = (e (a0 :: a1 :: a2 :: a3 :: a4 :: a5 :: a6 :: some v :: l) H).st (a0 :: a1 :: a2 :: a3 :: a4 :: a5 :: a6 :: some v :: l) fun y G1 => match augop o v y with
    | some z => .nx (a0 :: a1 :: a2 :: a3 :: a4 :: a5 :: a6 :: some z :: l) G1
    | none => .bad := rfl
theorem w8 {a0 a1 a2 a3 a4 a5 a6 a7 : Option E} {v : E} {l : Ro} : sVar 8 (a0 :: a1 :: a2 :: a3 :: a4 :: a5 :: a6 :: a7 :: some v :: l) H = .ok v H := rfl
theorem z8 {a0 a1 a2 a3 a4 a5 a6 a7 : Option E} {b v : Option E} {l : Ro} : List.set (a0 :: a1 :: a2 :: a3 :: a4 :: a5 :: a6 :: a7 :: b :: l) 8 v = a0 :: a1 :: a2 :: a3 :: a4 :: a5 :: a6 :: a7 :: v :: l := rfl
theorem y8 {a0 a1 a2 a3 a4 a5 a6 a7 : Option E} {b : Option E} {l : Ro} : (a0 :: a1 :: a2 :: a3 :: a4 :: a5 :: a6 :: a7 :: b :: l)[8]? = some b := rfl
theorem x8 {a0 a1 a2 a3 a4 a5 a6 a7 : Option E} {v : E} {l : Ro} {o : BOp} {e : Sx E} : qAug o 8 e (a0 :: a1 :: a2 :: a3 :: a4 :: a5 :: a6 :: a7 :: some v :: l) H = (e (a0 :: a1 :: a2 :: a3 :: a4 :: a5 :: a6 :: a7 :: some v :: l) H).st (a0 :: a1 :: a2 :: a3 :: a4 :: a5 :: a6 :: a7 :: some v :: l) fun y G1 => match augop o v y with
    | some z => .nx (a0 :: a1 :: a2 :: a3 :: a4 :: a5 :: a6 :: a7 :: some z :: l) G1
    | none => .bad := rfl
theorem w9 {a0 a1 a2 a3 a4 a5 a6 a7 a8 : Option E} {v : E} {l : Ro} : sVar 9 (a0 :: a1 :: a2 :: a3 :: a4 :: a5 :: a6 :: a7 :: a8 :: some v :: l) H = .ok v H := rfl
theorem z9 {a0 a1 a2 a3 a4 a5 a6 a7 a8 : Option E} {b v : Option E} {l : Ro} : List.set (a0 :: a1 :: a2 :: a3 :: a4 :: a5 :: a6 :: a7 :: a8 :: b :: l) 9 v = a0 :: a1 :: a2 :: a3 :: a4 :: a5 :: a6 :: a7 :: a8 :: v :: l := rfl
theorem y9 {a0 a1 a2 a3 a4 a5 a6 a7 a8 : Option E} {b : Option E} {l : Ro} : (a0 :: a1 :: a2 :: a3 :: a4 :: a5 :: a6 :: a7 :: a8 :: b :: l)[9]? = some b := rfl
theorem x9 {a0 a1 a2 a3 a4 a5 a6 a7 a8 : Option E} {v : E} {l : Ro} {o : BOp} {e : Sx E} : qAug o 9 e (a0 :: a1 :: a2 :: a3 :: a4 :: a5 :: a6 :: a7 :: a8 :: some v :: l) H = (e (a0 :: a1 :: a2 :: a3 :: a4 :: a5 :: a6 :: a7 :: a8 :: some v :: l) H).st (a0 :: a1 :: a2 :: a3 :: a4 :: a5 :: a6 :: a7 :: a8 :: some v :: l) fun y G1 => match augop o v y with
    | some z => .nx (a0 :: a1 :: a2 :: a3 :: a4 :: a5 :: a6 :: a7 :: a8 :: some z :: l) G1
    | none => .bad := rfl
theorem w10 {a0 a1 a2 a3 a4 a5 a6 a7 a8 a9 : Option E} {v : E} {l : Ro} : sVar 10 (a0 :: a1 :: a2 :: a3 :: a4 :: a5 :: a6 :: a7 :: a8 :: a9 :: some v :: l) H = .ok v H := rfl
theorem z10 {a0 a1 a2 a3 a4 a5 a6 a7 a8 a9 : Option E} {b v : Option E} {l : Ro} : List.set (a0 :: a1 :: a2 :: a3 :: a4 :: a5 :: a6 :: a7 :: a8 :: a9 :: b :: l) 10 v = a0 :: a1 :: a2 :: a3 :: a4 :: a5 :: a6 :: a7 :: a8 :: a9 :: v :: l := rfl
theorem y10 {a0 a1 a2 a3 a4 a5 a6 a7 a8 a9 : Option E} {b : Option E} {l : Ro} : (a0 :: a1 :: a2 :: a3 :: a4 :: a5 :: a6 :: a7 :: a8 :: a9 :: b :: l)[10]? = some b := rfl
theorem x10 {a0 a1 a2 a3 a4 a5 a6 a7 a8 a9 : Option E} {v : E} {l : Ro} {o : BOp} {e : Sx E} : qAug o 10 e (a0 :: a1 :: a2 :: a3 :: a4 :: a5 :: a6 :: a7 :: a8 :: a9 :: some v :: l) H = (e (a0 :: a1 :: a2 :: a3 :: a4 :: a5 :: a6 :: a7 :: a8 :: a9 :: some v :: l) H).st (a0 :: a1 :: a2 :: a3 :: a4 :: a5 :: a6 :: a7 :: a8 :: a9 :: some v :: l) fun y G1 => match augop o v y with
    | some z => .nx (a0 :: a1 :: a2 :: a3 :: a4 :: a5 :: a6 :: a7 :: a8 :: a9 :: some z :: l) G1
    | none => .bad := rfl
theorem w11 {a0 a1 a2 a3 a4 a5 a6 a7 a8 a9 a10 : Option E} {v : E} {l : Ro} : sVar 11 (a0 :: a1 :: a2 :: a3 :: a4 :: a5 :: a6 :: a7 :: a8 :: a9 :: a10 :: some v :: l) H = .ok v H := rfl
theorem z11 {a0 a1 a2 a3 a4 a5 a6 a7 a8 a9 a10 : Option E} {b v : Option E} {l : Ro} : List.set (a0 :: a1 :: a2 :: a3 :: a4 :: a5 :: a6 :: a7 :: a8 :: a9 :: a10 :: b :: l) 11 v = a0 :: a1 :: a2 :: a3 :: a4 :: a5 :: a6 :: a7 :: a8 :: a9 :: a10 :: v :: l := rfl
theorem y11 {a0 a1 a2 a3 a4 a5 a6 a7 a8 a9 a10 : Option E} {b : Option E} {l : Ro} : (a0 :: a1 :: a2 :: a3 :: a4 :: a5 :: a6 :: a7 :: a8 :: a9 :: a10 :: b :: l)[11]? = some b := rfl
theorem x11 {a0 a1 a2 a3 a4 a5 a6 a7 a8 a9 a10 : Option E} {v : E} {l : Ro} {o : BOp} {e : Sx E} : qAug o 11 e (a0 :: a1 :: a2 :: a3 :: a4 :: a5 :: a6 :: a7 :: a8 :: a9 :: a10 :: some v :: l) H = (e (a0 :: a1 :: a2 :: a3 :: a4 :: a5 :: a6 :: a7 :: a8 :: a9 :: a10 :: some v :: l) H).st (a0 :: a1 :: a2 :: a3 :: a4 :: a5 :: a6 :: a7 :: a8 :: a9 :: a10 :: some v :: l) fun y G1 => match augop o v y with
    | some z => .nx (a0 :: a1 :: a2 :: a3 :: a4 :: a5 :: a6 :: a7 :: a8 :: a9 :: a10 :: some z :: l) G1
    | none => .bad := rfl
theorem w12 {a0 a1 a2 a3 a4 a5 a6 a7 a8 a9 a10 a11 : Option E} {v : E} {l : Ro} : sVar 12 (a0 :: a1 :: a2 :: a3 :: a4 :: a5 :: a6 :: a7 :: a8 :: a9 :: a10 :: a11 :: some v :: l) H = .ok v H := rfl
theorem z12 {a0 a1 a2 a3 a4 a5 a6 a7 a8 a9 a10 a11 : Option E} {b v : Option E} {l : Ro} : List.set (a0 :: a1 :: a2 :: a3 :: a4 :: a5 :: a6 :: a7 :: a8 :: a9 :: a10 :: a11 :: b :: l) 12 v = a0 :: a1 :: a2 :: a3 :: a4 :: a5 :: a6 :: a7 :: a8 :: a9 :: a10 :: a11 :: v :: l := rfl
theorem y12 {a0 a1 a2 a3 a4 a5 a6 a7 a8 a9 a10 a11 : Option E} {b : Option E} {l : Ro} : (a0 :: a1 :: a2 :: a3 :: a4 :: a5 :: a6 :: a7 :: a8 :: a9 :: a10 :: a11 :: b :: l)[12]? = some b := rfl
theorem x12 {a0 a1 a2 a3 a4 a5 a6 a7 a8 a9 a10 a11 : Option E} {v : E} {l : Ro} {o : BOp} {e : Sx E} : qAug o 12 e (a0 :: a1 :: a2 :: a3 :: a4 :: a5 :: a6 :: a7 :: a8 :: a9 :: a10 :: a11 :: some v :: l) H = (e (a0 :: a1 :: a2 :: a3 :: a4 :: a5 :: a6 :: a7 :: a8 :: a9 :: a10 :: a11 :: some v :: l) H).st (a0 :: a1 :: a2 :: a3 :: a4 :: a5 :: a6 :: a7 :: a8 :: a9 :: a10 :: a11 :: some v :: l) fun y G1 => match augop o v y with
    | some z => .nx (a0 :: a1 :: a2 :: a3 :: a4 :: a5 :: a6 :: a7 :: a8 :: a9 :: a10 :: a11 :: some z :: l) G1
    | none => .bad := rfl
theorem w13 {a0 a1 a2 a3 a4 a5 a6 a7 a8 a9 a10 a11 a12 : Option E} {v : E} {l : Ro} : sVar 13 (a0 :: a1 :: a2 :: a3 :: a4 :: a5 :: a6 :: a7 :: a8 :: a9 :: a10 :: a11 :: a12 :: some v :: l) H = .ok v H := rfl
theorem z13 {a0 a1 a2 a3 a4 a5 a6 a7 a8 a9 a10 a11 a12 : Option E} {b v : Option E} {l : Ro} : List.set (a0 :: a1 :: a2 :: a3 :: a4 :: a5 :: a6 :: a7 :: a8 :: a9 :: a10 :: a11 :: a12 :: b :: l) 13 v = a0 :: a1 :: a2 :: a3 :: a4 :: a5 :: a6 :: a7 :: a8 :: a9 :: a10 :: a11 :: a12 :: v :: l := rfl
theorem y13 {a0 a1 a2 a3 a4 a5 a6 a7 a8 a9 a10 a11 a12 : Option E} {b : Option E} {l : Ro} : (a0 :: a1 :: a2 :: a3 :: a4 :: a5 :: a6 :: a7 :: a8 :: a9 :: a10 :: a11 :: a12 :: b :: l)[13]? = some b := rfl
theorem x13 {a0 a1 a2 a3 a4 a5 a6 a7 a8 a9 a10 a11 a12 : Option E} {v : E} {l : Ro} {o : BOp} {e : Sx E} : qAug o 13 e (a0 :: a1 :: a2 :: a3 :: a4 :: a5 :: a6 :: a7 :: a8 :: a9 :: a10 :: a11 :: a12 :: some v :: l) H = (e (a0 :: a1 :: a2 :: a3 :: a4 :: a5 :: a6 :: a7 :: a8 :: a9 :: a10 :: a11 :: a12 :: some v :: l) H).st (a0 :: a1 :: a2 :: a3 :: a4 :: a5 :: a6 :: a7 :: a8 :: a9 :: a10 :: a11 :: a12 :: some v :: l) fun y G1 => match augop o v y with
    | some z => .nx (a0 :: a1 :: a2 :: a3 :: a4 :: a5 :: a6 :: a7 :: a8 :: a9 :: a10 :: a11 :: a12 :: some z :: l) G1
    | none => .bad := rfl
theorem w14 {a0 a1 a2 a3 a4 a5 a6 a7 a8 a9 a10 a11 a12 a13 : Option E} {v : E} {l : Ro} : sVar 14 (a0 :: a1 :: a2 :: a3 :: a4 :: a5 :: a6 :: a7 :: a8 :: a9 :: a10 :: a11 :: a12 :: a13 :: some v :: l) H = .ok v H := rfl
theorem z14 {a0 a1 a2 a3 a4 a5 a6 a7 a8 a9 a10 a11 a12 a13 : Option E} {b v : Option E} {l : Ro} : List.set (a0 :: a1 :: a2 :: a3 :: a4 :: a5 :: a6 :: a7 :: a8 :: a9 :: a10 :: a11 :: a12 :: a13 :: b :: l) 14 v = a0 :: a1 :: a2 :: a3 :: a4 :: a5 :: a6 :: a7 :: a8 :: a9 :: a10 :: a11 :: a12 :: a13 :: v :: l := rfl
theorem y14 {a0 a1 a2 a3 a4 a5 a6 a7 a8 a9 a10 a11 a12 a13 : Option E} {b : Option E} {l : Ro} : (a0 :: a1 :: a2 :: a3 :: a4 :: a5 :: a6 :: a7 :: a8 :: a9 :: a10 :: a11 :: a12 :: a13 :: b :: l)[14]? = some b := rfl
theorem x14 {a0 a1 a2 a3 a4 a5 a6 a7 a8 a9 a10 a11 a12 a13 : Option E} {v : E} {l : Ro} {o : BOp} {e : Sx E} : qAug o 14 e (a0 :: a1 :: a2 :: a3 :: a4 :: a5 :: a6 :: a7 :: a8 :: a9 :: a10 :: a11 :: a12 :: a13 :: some v :: l) H = (e (a0 :: a1 :: a2 :: a3 :: a4 :: a5 :: a6 :: a7 :: a8 :: a9 :: a10 :: a11 :: a12 :: a13 :: some v :: l) H).st (a0 :: a1 :: a2 :: a3 :: a4 :: a5 :: a6 :: a7 :: a8 :: a9 :: a10 :: a11 :: a12 :: a13 :: some v :: l) fun y G1 => match augop o v y with
    | some z => .nx (a0 :: a1 :: a2 :: a3 :: a4 :: a5 :: a6 :: a7 :: a8 :: a9 :: a10 :: a11 :: a12 :: a13 :: some z :: l) G1
    | none => .bad := rfl
theorem w15 {a0 a1 a2 a3 a4 a5 a6 a7 a8 a9 a10 a11 a12 a13 a14 : Option E} {v : E} {l : Ro} : sVar 15 (a0 :: a1 :: a2 :: a3 :: a4 :: a5 :: a6 :: a7 :: a8 :: a9 :: a10 :: a11 :: a12 :: a13 :: a14 :: some v :: l) H = .ok v H := rfl
theorem z15 {a0 a1 a2 a3 a4 a5 a6 a7 a8 a9 a10 a11 a12 a13 a14 : Option E} {b v : Option E} {l : Ro} : List.set (a0 :: a1 :: a2 :: a3 :: a4 :: a5 :: a6 :: a7 :: a8 :: a9 :: a10 :: a11 :: a12 :: a13 :: a14 :: b :: l) 15 v = a0 :: a1 :: a2 :: a3 :: a4 :: a5 :: a6 :: a7 :: a8 :: a9 :: a10 :: a11 :: a12 :: a13 :: a14 :: v :: l := rfl
theorem y15 {a0 a1 a2 a3 a4 a5 a6 a7 a8 a9 a10 a11 a12 a13 a14 : Option E} {b : Option E} {l : Ro} : (a0 :: a1 :: a2 :: a3 :: a4 :: a5 :: a6 :: a7 :: a8 :: a9 :: a10 :: a11 :: a12 :: a13 :: a14 :: b :: l)[15]? = some b := rfl
theorem x15 {a0 a1 a2 a3 a4 a5 a6 a7 a8 a9 a10 a11 a12 a13 a14 : Option E} {v : E} {l : Ro} {o : BOp} {e : Sx E} : qAug o 15 e (a0 :: a1 :: a2 :: a3 :: a4 :: a5 :: a6 :: a7 :: a8 :: a9 :: a10 :: a11 :: a12 :: a13 :: a14 :: some v :: l) H = (e (a0 :: a1 :: a2 :: a3 :: a4 :: a5 :: a6 :: a7 :: a8 :: a9 :: a10 :: a11 :: a12 :: a13 :: a14 :: some v :: l) H).st (a0 :: a1 :: a2 :: a3 :: a4 :: a5 :: a6 :: a7 :: a8 :: a9 :: a10 :: a11 :: a12 :: a13 :: a14 :: some v :: l) fun y G1 => match augop o v y with
    | some z => .nx (a0 :: a1 :: a2 :: a3 :: a4 :: a5 :: a6 :: a7 :: a8 :: a9 :: a10 :: a11 :: a12 :: a13 :: a14 :: some z :: l) G1
    | none => .bad := rfl
theorem w16 {a0 a1 a2 a3 a4 a5 a6 a7 a8 a9 a10 a11 a12 a13 a14 a15 : Option E} {v : E} {l : Ro} : sVar 16 (a0 :: a1 :: a2 :: a3 :: a4 :: a5 :: a6 :: a7 :: a8 :: a9 :: a10 :: a11 :: a12 :: a13 :: a14 :: a15 :: some v :: l) H = .ok v H := rfl
theorem z16 {a0 a1 a2 a3 a4 a5 a6 a7 a8 a9 a10 a11 a12 a13 a14 a15 : Option E} {b v : Option E} {l : Ro} : List.set (a0 :: a1 :: a2 :: a3 :: a4 :: a5 :: a6 :: a7 :: a8 :: a9 :: a10 :: a11 :: a12 :: a13 :: a14 :: a15 :: b :: l) 16 v = a0 :: a1 :: a2 :: a3 :: a4 :: a5 :: a6 :: a7 :: a8 :: a9 :: a10 :: a11 :: a12 :: a13 :: a14 :: a15 :: v :: l := rfl
theorem y16 {a0 a1 a2 a3 a4 a5 a6 a7 a8 a9 a10 a11 a12 a13 a14 a15 : Option E} {b : Option E} {l : Ro} : (a0 :: a1 :: a2 :: a3 :: a4 :: a5 :: a6 :: a7 :: a8 :: a9 :: a10 :: a11 :: a12 :: a13 :: a14 :: a15 :: b :: l)[16]? = some b := rfl
theorem x16 {a0 a1 a2 a3 a4 a5 a6 a7 a8 a9 a10 a11 a12 a13 a14 a15 : Option E} {v : E} {l : Ro} {o : BOp} {e : Sx E} : qAug o 16 e (a0 :: a1 :: a2 :: a3 :: a4 :: a5 :: a6 :: a7 :: a8 :: a9 :: a10 :: a11 :: a12 :: a13 :: a14 :: a15 :: some v :: l) H = (e (a0 :: a1 :: a2 :: a3 :: a4 :: a5 :: a6 :: a7 :: a8 :: a9 :: a10 :: a11 :: a12 :: a13 :: a14 :: a15 :: some v :: l) H).st (a0 :: a1 :: a2 :: a3 :: a4 :: a5 :: a6 :: a7 :: a8 :: a9 :: a10 :: a11 :: a12 :: a13 :: a14 :: a15 :: some v :: l) fun y G1 => match augop o v y with
    | some z => .nx (a0 :: a1 :: a2 :: a3 :: a4 :: a5 :: a6 :: a7 :: a8 :: a9 :: a10 :: a11 :: a12 :: a13 :: a14 :: a15 :: some z :: l) G1
    | none => .bad := rfl
theorem w17 {a0 a1 a2 a3 a4 a5 a6 a7 a8 a9 a10 a11 a12 a13 a14 a15 a16 : Option E} {v : E} {l : Ro} : sVar 17 (a0 :: a1 :: a2 :: a3 :: a4 :: a5 :: a6 :: a7 :: a8 :: a9 :: a10 :: a11 :: a12 :: a13 :: a14 :: a15 :: a16 :: some v :: l) H = .ok v H := rfl
theorem z17 {a0 a1 a2 a3 a4 a5 a6 a7 a8 a9 a10 a11 a12 a13 a14 a15 a16 : Option E} {b v : Option E} {l : Ro} : List.set (a0 :: a1 :: a2 :: a3 :: a4 :: a5 :: a6 :: a7 :: a8 :: a9 :: a10 :: a11 :: a12 :: a13 :: a14 :: a15 :: a16 :: b :: l) 17 v = a0 :: a1 :: a2 :: a3 :: a4 :: a5 :: a6 :: a7 :: a8 :: a9 :: a10 :: a11 :: a12 :: a13 :: a14 :: a15 :: a16 :: v :: l := rfl
theorem y17 {a0 a1 a2 a3 a4 a5 a6 a7 a8 a9 a10 a11 a12 a13 a14 a15 a16 : Option E} {b : Option E} {l : Ro} : (a0 :: a1 :: a2 :: a3 :: a4 :: a5 :: a6 :: a7 :: a8 :: a9 :: a10 :: a11 :: a12 :: a13 :: a14 :: a15 :: a16 :: b :: l)[17]? = some b := rfl
theorem x17 {a0 a1 a2 a3 a4 a5 a6 a7 a8 a9 a10 a11 a12 a13 a14 a15 a16 : Option E} {v : E} {l : Ro} {o : BOp} {e : Sx E} : qAug o 17 e (a0 :: a1 :: a2 :: a3 :: a4 :: a5 :: a6 :: a7 :: a8 :: a9 :: a10 :: a11 :: a12 :: a13 :: a14 :: a15 :: a16 :: some v :: l) H = (e (a0 :: a1 :: a2 :: a3 :: a4 :: a5 :: a6 :: a7 :: a8 :: a9 :: a10 :: a11 :: a12 :: a13 :: a14 :: a15 :: a16 :: some v :: l) H).st (a0 :: a1 :: a2 :: a3 :: a4 :: a5 :: a6 :: a7 :: a8 :: a9 :: a10 :: a11 :: a12 :: a13 :: a14 :: a15 :: a16 :: some v :: l) fun y G1 => match augop o v y with
    | some z => .nx (a0 :: a1 :: a2 :: a3 :: a4 :: a5 :: a6 :: a7 :: a8 :: a9 :: a10 :: a11 :: a12 :: a13 :: a14 :: a15 :: a16 :: some z :: l) G1
    | none => .bad := rfl
theorem w18 {a0 a1 a2 a3 a4 a5 a6 a7 a8 a9 a10 a11 a12 a13 a14 a15 a16 a17 : Option E} {v : E} {l : Ro} : sVar 18 (a0 :: a1 :: a2 :: a3 :: a4 :: a5 :: a6 :: a7 :: a8 :: a9 :: a10 :: a11 :: a12 :: a13 :: a14 :: a15 :: a16 :: a17 :: some v :: l) H = .ok v H := rfl
theorem z18 {a0 a1 a2 a3 a4 a5 a6 a7 a8 a9 a10 a11 a12 a13 a14 a15 a16 a17 : Option E} {b v : Option E} {l : Ro} : List.set (a0 :: a1 :: a2 :: a3 :: a4 :: a5 :: a6 :: a7 :: a8 :: a9 :: a10 :: a11 :: a12 :: a13 :: a14 :: a15 :: a16 :: a17 :: b :: l) 18 v = a0 :: a1 :: a2 :: a3 :: a4 :: a5 :: a6 :: a7 :: a8 :: a9 :: a10 :: a11 :: a12 :: a13 :: a14 :: a15 :: a16 :: a17 :: v :: l := rfl
theorem y18 {a0 a1 a2 a3 a4 a5 a6 a7 a8 a9 a10 a11 a12 a13 a14 a15 a16 a17 : Option E} {b : Option E} {l : Ro} : (a0 :: a1 :: a2 :: a3 :: a4 :: a5 :: a6 :: a7 :: a8 :: a9 :: a10 :: a11 :: a12 :: a13 :: a14 :: a15 :: a16 :: a17 :: b :: l)[18]? = some b := rfl
theorem x18 {a0 a1 a2 a3 a4 a5 a6 a7 a8 a9 a10 a11 a12 a13 a14 a15 a16 a17 : Option E} {v : E} {l : Ro} {o : BOp} {e : Sx E} : qAug o 18 e (a0 :: a1 :: a2 :: a3 :: a4 :: a5 :: a6 :: a7 :: a8 :: a9 :: a10 :: a11 :: a12 :: a13 :: a14 :: a15 :: a16 :: a17 :: some v :: l) H = (e (a0 :: a1 :: a2 :: a3 :: a4 :: a5 :: a6 :: a7 :: a8 :: a9 :: a10 :: a11 :: a12 :: a13 :: a14 :: a15 :: a16 :: a17 :: some v :: l) H).st (a0 :: a1 :: a2 :: a3 :: a4 :: a5 :: a6 :: a7 :: a8 :: a9 :: a10 :: a11 :: a12 :: a13 :: a14 :: a15 :: a16 :: a17 :: some v :: l) fun y G1 => match augop o v y with
    | some z => .nx (a0 :: a1 :: a2 :: a3 :: a4 :: a5 :: a6 :: a7 :: a8 :: a9 :: a10 :: a11 :: a12 :: a13 :: a14 :: a15 :: a16 :: a17 :: some z :: l) G1
    | none => .bad := rfl
theorem w19 {a0 a1 a2 a3 a4 a5 a6 a7 a8 a9 a10 a11 a12 a13 a14 a15 a16 a17 a18 : Option E} {v : E} {l : Ro} : sVar 19 (a0 :: a1 :: a2 :: a3 :: a4 :: a5 :: a6 :: a7 :: a8 :: a9 :: a10 :: a11 :: a12 :: a13 :: a14 :: a15 :: a16 :: a17 :: a18 :: some v :: l) H = .ok v H := rfl
theorem z19 {a0 a1 a2 a3 a4 a5 a6 a7 a8 a9 a10 a11 a12 a13 a14 a15 a16 a17 a18 : Option E} {b v : Option E} {l : Ro} : List.set (a0 :: a1 :: a2 :: a3 :: a4 :: a5 :: a6 :: a7 :: a8 :: a9 :: a10 :: a11 :: a12 :: a13 :: a14 :: a15 :: a16 :: a17 :: a18 :: b :: l) 19 v = a0 :: a1 :: a2 :: a3 :: a4 :: a5 :: a6 :: a7 :: a8 :: a9 :: a10 :: a11 :: a12 :: a13 :: a14 :: a15 :: a16 :: a17 :: a18 :: v :: l := rfl
theorem y19 {a0 a1 a2 a3 a4 a5 a6 a7 a8 a9 a10 a11 a12 a13 a14 a15 a16 a17 a18 : Option E} {b : Option E} {l : Ro} : (a0 :: a1 :: a2 :: a3 :: a4 :: a5 :: a6 :: a7 :: a8 :: a9 :: a10 :: a11 :: a12 :: a13 :: a14 :: a15 :: a16 :: a17 :: a18 :: b :: l)[19]? = some b := rfl
theorem x19 {a0 a1 a2 a3 a4 a5 a6 a7 a8 a9 a10 a11 a12 a13 a14 a15 a16 a17 a18 : Option E} {v : E} {l : Ro} {o : BOp} {e : Sx E} : qAug o 19 e (a0 :: a1 :: a2 :: a3 :: a4 :: a5 :: a6 :: a7 :: a8 :: a9 :: a10 :: a11 :: a12 :: a13 :: a14 :: a15 :: a16 :: a17 :: a18 :: some v :: l) H = (e (a0 :: a1 :: a2 :: a3 :: a4 :: a5 :: a6 :: a7 :: a8 :: a9 :: a10 :: a11 :: a12 :: a13 :: a14 :: a15 :: a16 :: a17 :: a18 :: some v :: l) H).st (a0 :: a1 :: a2 :: a3 :: a4 :: a5 :: a6 :: a7 :: a8 :: a9 :: a10 :: a11 :: a12 :: a13 :: a14 :: a15 :: a16 :: a17 :: a18 :: some v :: l) fun y G1 => match augop o v y with
    | some z => .nx (a0 :: a1 :: a2 :: a3 :: a4 :: a5 :: a6 :: a7 :: a8 :: a9 :: a10 :: a11 :: a12 :: a13 :: a14 :: a15 :: a16 :: a17 :: a18 :: some z :: l) G1
    | none => .bad := rfl
theorem w20 {a0 a1 a2 a3 a4 a5 a6 a7 a8 a9 a10 a11 a12 a13 a14 a15 a16 a17 a18 a19 : Option E} {v : E} {l : Ro} : sVar 20 (a0 :: a1 :: a2 :: a3 :: a4 :: a5 :: a6 :: a7 :: a8 :: a9 :: a10 :: a11 :: a12 :: a13 :: a14 :: a15 :: a16 :: a17 :: a18 :: a19 :: some v :: l) H = .ok v H := rfl
theorem z20 {a0 a1 a2 a3 a4 a5 a6 a7 a8 a9 a10 a11 a12 a13 a14 a15 a16 a17 a18 a19 : Option E} {b v : Option E} {l : Ro} : List.set (a0 :: a1 :: a2 :: a3 :: a4 :: a5 :: a6 :: a7 :: a8 :: a9 :: a10 :: a11 :: a12 :: a13 :: a14 :: a15 :: a16 :: a17 :: a18 :: a19 :: b :: l) 20 v = a0 :: a1 :: a2 :: a3 :: a4 :: a5 :: a6 :: a7 :: a8 :: a9 :: a10 :: a11 :: a12 :: a13 :: a14 :: a15 :: a16 :: a17 :: a18 :: a19 :: v :: l := rfl
theorem y20 {a0 a1 a2 a3 a4 a5 a6 a7 a8 a9 a10 a11 a12 a13 a14 a15 a16 a17 a18 a19 : Option E} {b : Option E} {l : Ro} : (a0 :: a1 :: a2 :: a3 :: a4 :: a5 :: a6 :: a7 :: a8 :: a9 :: a10 :: a11 :: a12 :: a13 :: a14 :: a15 :: a16 :: a17 :: a18 :: a19 :: b :: l)[20]? = some b := rfl
theorem x20 {a0 a1 a2 a3 a4 a5 a6 a7 a8 a9 a10 a11 a12 a13 a14 a15 a16 a17 a18 a19 : Option E} {v : E} {l : Ro} {o : BOp} {e : Sx E} : qAug o 20 e (a0 :: a1 :: a2 :: a3 :: a4 :: a5 :: a6 :: a7 :: a8 :: a9 :: a10 :: a11 :: a12 :: a13 :: a14 :: a15 :: a16 :: a17 :: a18 :: a19 :: some v :: l) H = (e (a0 :: a1 :: a2 :: a3 :: a4 :: a5 :: a6 :: a7 :: a8 :: a9 :: a10 :: a11 :: a12 :: a13 :: a14 :: a15 :: a16 :: a17 :: a18 :: a19 :: some v :: l) H).st (a0 :: a1 :: a2 :: a3 :: a4 :: a5 :: a6 :: a7 :: a8 :: a9 :: a10 :: a11 :: a12 :: a13 :: a14 :: a15 :: a16 :: a17 :: a18 :: a19 :: some v :: l) fun y G1 => match augop o v y with
    | some z => .nx (a0 :: a1 :: a2 :: a3 :: a4 :: a5 :: a6 :: a7 :: a8 :: a9 :: a10 :: a11 :: a12 :: a13 :: a14 :: a15 :: a16 :: a17 :: a18 :: a19 :: some z :: l) G1
    | none => .bad := rfl
theorem w21 {a0 a1 a2 a3 a4 a5 a6 a7 a8 a9 a10 a11 a12 a13 a14 a15 a16 a17 a18 a19 a20 : Option E} {v : E} {l : Ro} : sVar 21 (a0 :: a1 :: a2 :: a3 :: a4 :: a5 :: a6 :: a7 :: a8 :: a9 :: a10 :: a11 :: a12 :: a13 :: a14 :: a15 :: a16 :: a17 :: a18 :: a19 :: a20 :: some v :: l) H = .ok v H := rfl
theorem z21 {a0 a1 a2 a3 a4 a5 a6 a7 a8 a9 a10 a11 a12 a13 a14 a15 a16 a17 a18 a19 a20 : Option E} {b v : Option E} {l : Ro} : List.set (a0 :: a1 :: a2 :: a3 :: a4 :: a5 :: a6 :: a7 :: a8 :: a9 :: a10 :: a11 :: a12 :: a13 :: a14 :: a15 :: a16 :: a17 :: a18 :: a19 :: a20 :: b :: l) 21 v = a0 :: a1 :: a2 :: a3 :: a4 :: a5 :: a6 :: a7 :: a8 :: a9 :: a10 :: a11 :: a12 :: a13 :: a14 :: a15 :: a16 :: a17 :: a18 :: a19 :: a20 :: v :: l := rfl
theorem y21 {a0 a1 a2 a3 a4 a5 a6 a7 a8 a9 a10 a11 a12 a13 a14 a15 a16 a17 a18 a19 a20 : Option E} {b : Option E} {l : Ro} : (a0 :: a1 :: a2 :: a3 :: a4 :: a5 :: a6 :: a7 :: a8 :: a9 :: a10 :: a11 :: a12 :: a13 :: a14 :: a15 :: a16 :: a17 :: a18 :: a19 :: a20 :: b :: l)[21]? = some b := rfl
theorem x21 {a0 a1 a2 a3 a4 a5 a6 a7 a8 a9 a10 a11 a12 a13 a14 a15 a16 a17 a18 a19 a20 : Option E} {v : E} {l : Ro} {o : BOp} {e : Sx E} : qAug o 21 e (a0 :: a1 :: a2 :: a3 :: a4 :: a5 :: a6 :: a7 :: a8 :: a9 :: a10 :: a11 :: a12 :: a13 :: a14 :: a15 :: a16 :: a17 :: a18 :: a19 :: a20 :: some v :: l) H = (e (a0 :: a1 :: a2 :: a3 :: a4 :: a5 :: a6 :: a7 :: a8 :: a9 :: a10 :: a11 :: a12 :: a13 :: a14 :: a15 :: a16 :: a17 :: a18 :: a19 :: a20 :: some v :: l) H).st (a0 :: a1 :: a2 :: a3 :: a4 :: a5 :: a6 :: a7 :: a8 :: a9 :: a10 :: a11 :: a12 :: a13 :: a14 :: a15 :: a16 :: a17 :: a18 :: a19 :: a20 :: some v :: l) fun y G1 => match augop o v y with
    | some z => .nx (a0 :: a1 :: a2 :: a3 :: a4 :: a5 :: a6 :: a7 :: a8 :: a9 :: a10 :: a11 :: a12 :: a13 :: a14 :: a15 :: a16 :: a17 :: a18 :: a19 :: a20 :: some z :: l) G1
    | none => .bad := rfl
theorem w22 {a0 a1 a2 a3 a4 a5 a6 a7 a8 a9 a10 a11 a12 a13 a14 a15 a16 a17 a18 a19 a20 a21 : Option E} {v : E} {l : Ro} : sVar 22 (a0 :: a1 :: a2 :: a3 :: a4 :: a5 :: a6 :: a7 :: a8 :: a9 :: a10 :: a11 :: a12 :: a13 :: a14 :: a15 :: a16 :: a17 :: a18 :: a19 :: a20 :: a21 :: some v :: l) H = .ok v H := rfl
theorem z22 {a0 a1 a2 a3 a4 a5 a6 a7 a8 a9 a10 a11 a12 a13 a14 a15 a16 a17 a18 a19 a20 a21 : Option E} {b v : Option E} {l : Ro} : List.set (a0 :: a1 :: a2 :: a3 :: a4 :: a5 :: a6 :: a7 :: a8 :: a9 :: a10 :: a11 :: a12 :: a13 :: a14 :: a15 :: a16 :: a17 :: a18 :: a19 :: a20 :: a21 :: b :: l) 22 v = a0 :: a1 :: a2 :: a3 :: a4 :: a5 :: a6 :: a7 :: a8 :: a9 :: a10 :: a11 :: a12 :: a13 :: a14 :: a15 :: a16 :: a17 :: a18 :: a19 :: a20 :: a21 :: v :: l := rfl
theorem y22 {a0 a1 a2 a3 a4 a5 a6 a7 a8 a9 a10 a11 a12 a13 a14 a15 a16 a17 a18 a19 a20 a21 : Option E} {b : Option E} {l : Ro} : (a0 :: a1 :: a2 :: a3 :: a4 :: a5 :: a6 :: a7 :: a8 :: a9 :: a10 :: a11 :: a12 :: a13 :: a14 :: a15 :: a16 :: a17 :: a18 :: a19 :: a20 :: a21 :: b :: l)[22]? = some b := rfl
theorem x22 {a0 a1 a2 a3 a4 a5 a6 a7 a8 a9 a10 a11 a12 a13 a14 a15 a16 a17 a18 a19 a20 a21 : Option E} {v : E} {l : Ro} {o : BOp} {e : Sx E} : qAug o 22 e (a0 :: a1 :: a2 :: a3 :: a4 :: a5 :: a6 :: a7 :: a8 :: a9 :: a10 :: a11 :: a12 :: a13 :: a14 :: a15 :: a16 :: a17 :: a18 :: a19 :: a20 :: a21 :: some v :: l) H = (e (a0 :: a1 :: a2 :: a3 :: a4 :: a5 :: a6 :: a7 :: a8 :: a9 :: a10 :: a11 :: a12 :: a13 :: a14 :: a15 :: a16 :: a17 :: a18 :: a19 :: a20 :: a21 :: some v :: l) H).st (a0 :: a1 :: a2 :: a3 :: a4 :: a5 :: a6 :: a7 :: a8 :: a9 :: a10 :: a11 :: a12 :: a13 :: a14 :: a15 :: a16 :: a17 :: a18 :: a19 :: a20 :: a21 :: some v :: l) fun y G1 => match augop o v y with
    | some z => .nx (a0 :: a1 :: a2 :: a3 :: a4 :: a5 :: a6 :: a7 :: a8 :: a9 :: a10 :: a11 :: a12 :: a13 :: a14 :: a15 :: a16 :: a17 :: a18 :: a19 :: a20 :: a21 :: some z :: l) G1
    | none => .bad := rfl
theorem w23 {a0 a1 a2 a3 a4 a5 a6 a7 a8 a9 a10 a11 a12 a13 a14 a15 a16 a17 a18 a19 a20 a21 a22 : Option E} {v : E} {l : Ro} : sVar 23 (a0 :: a1 :: a2 :: a3 :: a4 :: a5 :: a6 :: a7 :: a8 :: a9 :: a10 :: a11 :: a12 :: a13 :: a14 :: a15 :: a16 :: a17 :: a18 :: a19 :: a20 :: a21 :: a22 :: some v :: l) H = .ok v H := rfl
theorem z23 {a0 a1 a2 a3 a4 a5 a6 a7 a8 a9 a10 a11 a12 a13 a14 a15 a16 a17 a18 a19 a20 a21 a22 : Option E} {b v : Option E} {l : Ro} : List.set (a0 :: a1 :: a2 :: a3 :: a4 :: a5 :: a6 :: a7 :: a8 :: a9 :: a10 :: a11 :: a12 :: a13 :: a14 :: a15 :: a16 :: a17 :: a18 :: a19 :: a20 :: a21 :: a22 :: b :: l) 23 v = a0 :: a1 :: a2 :: a3 :: a4 :: a5 :: a6 :: a7 :: a8 :: a9 :: a10 :: a11 :: a12 :: a13 :: a14 :: a15 :: a16 :: a17 :: a18 :: a19 :: a20 :: a21 :: a22 :: v :: l := rfl
theorem y23 {a0 a1 a2 a3 a4 a5 a6 a7 a8 a9 a10 a11 a12 a13 a14 a15 a16 a17 a18 a19 a20 a21 a22 : Option E} {b : Option E} {l : Ro} : (a0 :: a1 :: a2 :: a3 :: a4 :: a5 :: a6 :: a7 :: a8 :: a9 :: a10 :: a11 :: a12 :: a13 :: a14 :: a15 :: a16 :: a17 :: a18 :: a19 :: a20 :: a21 :: a22 :: b :: l)[23]? = some b := rfl
theorem x23 {a0 a1 a2 a3 a4 a5 a6 a7 a8 a9 a10 a11 a12 a13 a14 a15 a16 a17 a18 a19 a20 a21 a22 : Option E} {v : E} {l : Ro} {o : BOp} {e : Sx E} : qAug o 23 e (a0 :: a1 :: a2 :: a3 :: a4 :: a5 :: a6 :: a7 :: a8 :: a9 :: a10 :: a11 :: a12 :: a13 :: a14 :: a15 :: a16 :: a17 :: a18 :: a19 :: a20 :: a21 :: a22 :: some v :: l) H = (e (a0 :: a1 :: a2 :: a3 :: a4 :: a5 :: a6 :: a7 :: a8 :: a9 :: a10 :: a11 :: a12 :: a13 :: a14 :: a15 :: a16 :: a17 :: a18 :: a19 :: a20 :: a21 :: a22 :: some v :: l) H).st (a0 :: a1 :: a2 :: a3 :: a4 :: a5 :: a6 :: a7 :: a8 :: a9 :: a10 :: a11 :: a12 :: a13 :: a14 :: a15 :: a16 :: a17 :: a18 :: a19 :: a20 :: a21 :: a22 :: some v :: l) fun y G1 => match augop o v y with
    | some z => .nx (a0 :: a1 :: a2 :: a3 :: a4 :: a5 :: a6 :: a7 :: a8 :: a9 :: a10 :: a11 :: a12 :: a13 :: a14 :: a15 :: a16 :: a17 :: a18 :: a19 :: a20 :: a21 :: a22 :: some z :: l) G1
    | none => .bad := rfl
theorem w24 {a0 a1 a2 a3 a4 a5 a6 a7 a8 a9 a10 a11 a12 a13 a14 a15 a16 a17 a18 a19 a20 a21 a22 a23 : Option E} {v : E} {l : Ro} : sVar 24 (a0 :: a1 :: a2 :: a3 :: a4 :: a5 :: a6 :: a7 :: a8 :: a9 :: a10 :: a11 :: a12 :: a13 :: a14 :: a15 :: a16 :: a17 :: a18 :: a19 :: a20 :: a21 :: a22 :: a23 :: some v :: l) H = .ok v H := rfl
theorem z24 {a0 a1 a2 a3 a4 a5 a6 a7 a8 a9 a10 a11 a12 a13 a14 a15 a16 a17 a18 a19 a20 a21 a22 a23 : Option E} {b v : Option E} {l : Ro} : List.set (a0 :: a1 :: a2 :: a3 :: a4 :: a5 :: a6 :: a7 :: a8 :: a9 :: a10 :: a11 :: a12 :: a13 :: a14 :: a15 :: a16 :: a17 :: a18 :: a19 :: a20 :: a21 :: a22 :: a23 :: b :: l) 24 v = a0 :: a1 :: a2 :: a3 :: a4 :: a5 :: a6 :: a7 :: a8 :: a9 :: a10 :: a11 :: a12 :: a13 :: a14 :: a15 :: a16 :: a17 :: a18 :: a19 :: a20 :: a21 :: a22 :: a23 :: v :: l := rfl
theorem y24 {a0 a1 a2 a3 a4 a5 a6 a7 a8 a9 a10 a11 a12 a13 a14 a15 a16 a17 a18 a19 a20 a21 a22 a23 : Option E} {b : Option E} {l : Ro} : (a0 :: a1 :: a2 :: a3 :: a4 :: a5 :: a6 :: a7 :: a8 :: a9 :: a10 :: a11 :: a12 :: a13 :: a14 :: a15 :: a16 :: a17 :: a18 :: a19 :: a20 :: a21 :: a22 :: a23 :: b :: l)[24]? = some b := rfl
theorem x24 {a0 a1 a2 a3 a4 a5 a6 a7 a8 a9 a10 a11 a12 a13 a14 a15 a16 a17 a18 a19 a20 a21 a22 a23 : Option E} {v : E} {l : Ro} {o : BOp} {e : Sx E} : qAug o 24 e (a0 :: a1 :: a2 :: a3 :: a4 :: a5 :: a6 :: a7 :: a8 :: a9 :: a10 :: a11 :: a12 :: a13 :: a14 :: a15 :: a16 :: a17 :: a18 :: a19 :: a20 :: a21 :: a22 :: a23 :: some v :: l) H = (e (a0 :: a1 :: a2 :: a3 :: a4 :: a5 :: a6 :: a7 :: a8 :: a9 :: a10 :: a11 :: a12 :: a13 :: a14 :: a15 :: a16 :: a17 :: a18 :: a19 :: a20 :: a21 :: a22 :: a23 :: some v :: l) H).st (a0 :: a1 :: a2 :: a3 :: a4 :: a5 :: a6 :: a7 :: a8 :: a9 :: a10 :: a11 :: a12 :: a13 :: a14 :: a15 :: a16 :: a17 :: a18 :: a19 :: a20 :: a21 :: a22 :: a23 :: some v :: l) fun y G1 => match augop o v y with
    | some z => .nx (a0 :: a1 :: a2 :: a3 :: a4 :: a5 :: a6 :: a7 :: a8 :: a9 :: a10 :: a11 :: a12 :: a13 :: a14 :: a15 :: a16 :: a17 :: a18 :: a19 :: a20 :: a21 :: a22 :: a23 :: some z :: l) G1
    | none => .bad := rfl
end
/-! turns -/
section
variable {st : Option Nat} {all r : List E} {tg : Tg} {b : Ss} {x : E} {ρ ρ1 ρ2 : Ro} {H H2 : Hq}
theorem for_nx (hs : staysB st all H = true) (ht : tg.set x ρ = some ρ1) (hb : b ρ1 H = .nx ρ2 H2) : forS st all tg b (x :: r) ρ H = forS st all tg b r ρ2 H2 := by
  show (if staysB st all H then _ else _) = _
  rw [if_pos hs, ht]
  show (match b ρ1 H with | .nx ρ2 G2 => forS st all tg b r ρ2 G2 | .ct ρ2 G2 => forS st all tg b r ρ2 G2 | .bk ρ2 G2 => .nx ρ2 G2 | .rt v G2 => .rt v G2 | .ex c ρ2 G2 => .ex c ρ2 G2 | .bad => .bad) = _
  rw [hb]
theorem for_rt {v : E} (hs : staysB st all H = true) (ht : tg.set x ρ = some ρ1) (hb : b ρ1 H = .rt v H2) : forS st all tg b (x :: r) ρ H = .rt v H2 := by
  show (if staysB st all H then _ else _) = _
  rw [if_pos hs, ht]
  show (match b ρ1 H with | .nx ρ2 G2 => forS st all tg b r ρ2 G2 | .ct ρ2 G2 => forS st all tg b r ρ2 G2 | .bk ρ2 G2 => .nx ρ2 G2 | .rt v G2 => .rt v G2 | .ex c ρ2 G2 => .ex c ρ2 G2 | .bad => .bad) = _
  rw [hb]
theorem for_ex {c : Nat} (hs : staysB st all H = true) (ht : tg.set x ρ = some ρ1) (hb : b ρ1 H = .ex c ρ2 H2) : forS st all tg b (x :: r) ρ H = .ex c ρ2 H2 := by
  show (if staysB st all H then _ else _) = _
  rw [if_pos hs, ht]
  show (match b ρ1 H with | .nx ρ2 G2 => forS st all tg b r ρ2 G2 | .ct ρ2 G2 => forS st all tg b r ρ2 G2 | .bk ρ2 G2 => .nx ρ2 G2 | .rt v G2 => .rt v G2 | .ex c ρ2 G2 => .ex c ρ2 G2 | .bad => .bad) = _
  rw [hb]
theorem for_end (hs : staysB st all H = true) : forS st all tg b [] ρ H = .nx ρ H := by
  show (if staysB st all H then _ else _) = _
  rw [if_pos hs]
/-- a comprehension's turn -/
theorem lc_turn {c : Sx Bool} {e : Sx E} {acc : List E} {y : E} (hs : staysB st all H = true) (ht : tg.set x ρ = some ρ1) (hc : c ρ1 H = .ok true H) (he : e ρ1 H = .ok y H2) (hl : acc.length < 16777216) :
    lcS st all tg c e ρ (x :: r) acc H = lcS st all tg c e ρ r (acc ++ [y]) H2 := by
  show (if staysB st all H then _ else _) = _
  rw [if_pos hs, ht]
  show ((c ρ1 H).nox.bind fun b G1 => if b then ((e ρ1 G1).nox).bind fun y G2 => if acc.length < sizeLine then lcS st all tg c e ρ r (acc ++ [y]) G2 else .bad else lcS st all tg c e ρ r acc G1) = _
  rw [hc]
  show ((e ρ1 H).nox.bind fun y G2 => if acc.length < sizeLine then lcS st all tg c e ρ r (acc ++ [y]) G2 else .bad) = _
  rw [he]
  show (if acc.length < sizeLine then lcS st all tg c e ρ r (acc ++ [y]) H2 else .bad) = _
  rw [if_pos (by rw [sizeLine_eq]; exact hl)]
theorem lc_end {c : Sx Bool} {e : Sx E} {acc : List E} (hs : staysB st all H = true) : lcS st all tg c e ρ [] acc H = .ok acc H := by
  show (if staysB st all H then _ else _) = _
  rw [if_pos hs]
/-- a comprehension that changes nothing: each item by f -/
theorem lc_map {α : Type} {g f : α → E} {c : Sx Bool} {e : Sx E} {n : Nm} (hc : ∀ ρ, c ρ H = .ok true H) : ∀ (l : List α) (acc : List E), (∀ a ∈ l, e (ρ.set n.i (some (g a))) H = .ok (f a) H) → acc.length + l.length ≤ 16777216 →
    lcS none all (.name n) c e ρ (l.map g) acc H = .ok (acc ++ l.map f) H
  | [], acc, _, _ => by rw [List.map_nil, lc_end rfl]; simp
  | a :: l, acc, he, hl => by
    rw [List.length_cons] at hl
    rw [List.map_cons, lc_turn (ρ1 := ρ.set n.i (some (g a))) rfl rfl (hc _) (he a List.mem_cons_self) (by omega), lc_map hc l _ (fun b hb => he b (List.mem_cons_of_mem _ hb)) (by simp; omega)]
    simp
end
end Lt
end
section
set_option Elab.async false
set_option linter.all false
set_option maxRecDepth 100000
set_option maxHeartbeats 0
/-! The program, what the head tells, the end. Printed by inst.py. -/
namespace K01
open PySem PySem.Spec PyProof.Rows L2 Lt
def top (i : Nat) : Stmt := PySem.Challenge.pw_nothinglost_k01_bytes_and_their_checks.main.body.getD i (.Pass ⟨0, 0, 0, 0⟩)
def sc0 : Scope := { kind := .function, names := [(".0", .local), ("sign", .local), ("ALPHABET", .globalImplicit)], isGenerator := false, isCoroutine := false, more := [] }
def sc1 : Scope := { kind := .function, names := [(".0", .local), ("a", .local), ("ALPHABET", .globalImplicit)], isGenerator := false, isCoroutine := false, more := [] }
def sc2 : Scope := { kind := .function, names := [(".0", .local), ("a", .local), ("len", .globalImplicit), ("ALPHABET", .globalImplicit)], isGenerator := false, isCoroutine := false, more := [] }
def sc3 : Scope := { kind := .function, names := [(".0", .local), ("cell", .local), ("abs", .globalImplicit), ("int", .globalImplicit)], isGenerator := false, isCoroutine := false, more := [] }
def sc4 : Scope := { kind := .function, names := [(".0", .local), ("k", .local), ("_law_thing", .globalImplicit), ("deep", .free), ("tape", .free)], isGenerator := false, isCoroutine := false, more := [] }
def sc5 : Scope := { kind := .function, names := [(".0", .local), ("k", .local), ("ALPHABET", .globalImplicit), ("_law_take", .globalImplicit), ("len", .globalImplicit), ("tape", .free)], isGenerator := false, isCoroutine := false, more := [] }
def sc6 : Scope := { kind := .function, names := [("put_text", .globalImplicit)], isGenerator := false, isCoroutine := false, more := [] }
def sc7 : Scope := { kind := .function, names := [("far", .free), ("take_thing", .globalImplicit)], isGenerator := false, isCoroutine := false, more := [] }
def sc8 : Scope := { kind := .function, names := [("deep", .free), ("put_thing", .globalImplicit)], isGenerator := false, isCoroutine := false, more := [] }
def sc9 : Scope := { kind := .function, names := [("put_number", .globalImplicit)], isGenerator := false, isCoroutine := false, more := [] }
def sc10 : Scope := { kind := .function, names := [("take_number", .globalImplicit)], isGenerator := false, isCoroutine := false, more := [] }
def sc11 : Scope := { kind := .function, names := [("bad", .free), ("take_thing", .globalImplicit)], isGenerator := false, isCoroutine := false, more := [] }
def sc12 : Scope := { kind := .function, names := [("bent", .free), ("take_sealed", .globalImplicit)], isGenerator := false, isCoroutine := false, more := [] }
def sc13 : Scope := { kind := .function, names := [("row", .free), ("size", .free), ("take_sealed", .globalImplicit)], isGenerator := false, isCoroutine := false, more := [] }
def b0_0 : Ex := (.cmp .gt (.var 0 "number" ⟨13, 10, 13, 16⟩) (.int 127 0 ⟨13, 19, 13, 22⟩) ⟨13, 10, 13, 22⟩)
def b0_1 : Stms := (.cons (.app (.var 1 "found" ⟨14, 8, 14, 13⟩) (.bin .add (.bin .mod (.var 0 "number" ⟨14, 21, 14, 27⟩) (.int 128 0 ⟨14, 30, 14, 33⟩) ⟨14, 21, 14, 33⟩) (.int 128 0 ⟨14, 36, 14, 39⟩) ⟨14, 21, 14, 39⟩) ⟨14, 8, 14, 20⟩ ⟨14, 8, 14, 40⟩ ⟨14, 8, 14, 40⟩) (.cons (.aug .fdiv ⟨0, "number", ⟨15, 8, 15, 14⟩⟩ (.int 128 0 ⟨15, 19, 15, 22⟩) ⟨15, 8, 15, 22⟩) .nil))
def b0 : Stms := (.cons (.ifs (.cmp .lt (.var 0 "number" ⟨10, 7, 10, 13⟩) (.int 0 0 ⟨10, 16, 10, 17⟩) ⟨10, 7, 10, 17⟩) (.cons (.rais 0 "InvalidBytes" "a number is below 0" 0 ⟨11, 14, 11, 26⟩ ⟨11, 27, 11, 48⟩ ⟨11, 14, 11, 49⟩ ⟨11, 8, 11, 49⟩) .nil) .nil ⟨10, 4, 11, 49⟩) (.cons (.asgL ⟨1, "found", ⟨12, 4, 12, 9⟩⟩ (.disp .nil ⟨12, 12, 12, 14⟩) ⟨12, 4, 12, 14⟩) (.cons (.whil b0_0 b0_1 ⟨13, 4, 15, 22⟩) (.cons (.ret (.biL .tup (.cat (.ofE (.var 1 "found" ⟨16, 17, 16, 22⟩)) (.disp (.cons (.var 0 "number" ⟨16, 26, 16, 32⟩) .nil) ⟨16, 25, 16, 33⟩) ⟨16, 17, 16, 33⟩) ⟨16, 11, 16, 16⟩ ⟨16, 11, 16, 34⟩) ⟨16, 4, 16, 34⟩) .nil))))
def N0 : List Str := [("number" : Str), ("found" : Str)]
def f0 : Fn := ⟨1, 2, true, b0⟩
def b1_0 : Stms := (.cons (.aug .add ⟨2, "found", ⟨20, 8, 20, 13⟩⟩ (.bin .mul (.bin .mod (.sub (.var 0 "row" ⟨20, 17, 20, 20⟩) (.var 4 "place" ⟨20, 21, 20, 26⟩) ⟨20, 17, 20, 27⟩) (.int 128 0 ⟨20, 30, 20, 33⟩) ⟨20, 17, 20, 33⟩) (.var 3 "step" ⟨20, 36, 20, 40⟩) ⟨20, 17, 20, 40⟩) ⟨20, 8, 20, 40⟩) (.cons (.aug .mul ⟨3, "step", ⟨21, 8, 21, 12⟩⟩ (.int 128 0 ⟨21, 16, 21, 19⟩) ⟨21, 8, 21, 19⟩) (.cons (.ifs (.cmp .lt (.sub (.var 0 "row" ⟨22, 11, 22, 14⟩) (.var 4 "place" ⟨22, 15, 22, 20⟩) ⟨22, 11, 22, 21⟩) (.int 128 0 ⟨22, 24, 22, 27⟩) ⟨22, 11, 22, 27⟩) (.cons (.ifs (.and (.cons (.cmp .eq (.sub (.var 0 "row" ⟨23, 15, 23, 18⟩) (.var 4 "place" ⟨23, 19, 23, 24⟩) ⟨23, 15, 23, 25⟩) (.int 0 0 ⟨23, 29, 23, 30⟩) ⟨23, 15, 23, 30⟩) (.cons (.cmp .gt (.var 4 "place" ⟨23, 35, 23, 40⟩) (.var 1 "at" ⟨23, 43, 23, 45⟩) ⟨23, 35, 23, 45⟩) .nil)) ⟨23, 15, 23, 45⟩) (.cons (.rais 0 "InvalidBytes" "a number is told too long" 0 ⟨24, 22, 24, 34⟩ ⟨24, 35, 24, 62⟩ ⟨24, 22, 24, 63⟩ ⟨24, 16, 24, 63⟩) .nil) .nil ⟨23, 12, 24, 63⟩) (.cons (.ret (.tup (.cons (.var 2 "found" ⟨25, 20, 25, 25⟩) (.cons (.bin .add (.var 4 "place" ⟨25, 27, 25, 32⟩) (.int 1 0 ⟨25, 35, 25, 36⟩) ⟨25, 27, 25, 36⟩) .nil)) 0 ⟨25, 19, 25, 37⟩) ⟨25, 12, 25, 37⟩) .nil)) .nil ⟨22, 8, 25, 37⟩) .nil)))
def b1 : Stms := (.cons (.asg (.tup [⟨2, "found", ⟨18, 4, 18, 9⟩⟩, ⟨3, "step", ⟨18, 11, 18, 15⟩⟩] 0 ⟨18, 4, 18, 15⟩) (.tup (.cons (.int 0 0 ⟨18, 19, 18, 20⟩) (.cons (.int 1 0 ⟨18, 22, 18, 23⟩) .nil)) 0 ⟨18, 18, 18, 24⟩) ⟨18, 4, 18, 24⟩) (.cons (.forr (.name ⟨4, "place", ⟨19, 8, 19, 13⟩⟩) (.r2 (.var 1 "at" ⟨19, 23, 19, 25⟩) (.bi1 .len (.var 0 "row" ⟨19, 31, 19, 34⟩) ⟨19, 27, 19, 30⟩ ⟨19, 27, 19, 35⟩) ⟨19, 17, 19, 22⟩ ⟨19, 17, 19, 36⟩) b1_0 ⟨19, 4, 25, 37⟩) (.cons (.rais 0 "InvalidBytes" "a number is cut off" 0 ⟨26, 10, 26, 22⟩ ⟨26, 23, 26, 44⟩ ⟨26, 10, 26, 45⟩ ⟨26, 4, 26, 45⟩) .nil)))
def N1 : List Str := [("row" : Str), ("at" : Str), ("found" : Str), ("step" : Str), ("place" : Str)]
def f1 : Fn := ⟨2, 5, true, b1⟩
def b2_0 : Ex := (.sidx (.glb 0 "ALPHABET" ⟨30, 42, 30, 50⟩) (.var 2 "sign" ⟨30, 57, 30, 61⟩) ⟨30, 42, 30, 56⟩ ⟨30, 42, 30, 62⟩)
def b2_1 : Ex := (.inS (.var 2 "sign" ⟨28, 16, 28, 20⟩) (.glb 0 "ALPHABET" ⟨28, 24, 28, 32⟩) ⟨28, 16, 28, 32⟩)
def b2 : Stms := (.cons (.ifs (.not (.biL .all (.lc b2_1 (.name ⟨2, "sign", ⟨28, 37, 28, 41⟩⟩) (.a (.var 0 "text" ⟨28, 45, 28, 49⟩)) .none sc0 [(".0", 1), ("sign", 2)] ⟨28, 15, 28, 50⟩) ⟨28, 11, 28, 14⟩ ⟨28, 11, 28, 51⟩) ⟨28, 7, 28, 51⟩) (.cons (.rais 0 "InvalidBytes" "a sign is refused" 0 ⟨29, 14, 29, 26⟩ ⟨29, 27, 29, 46⟩ ⟨29, 14, 29, 47⟩ ⟨29, 8, 29, 47⟩) .nil) .nil ⟨28, 4, 29, 47⟩) (.cons (.ret (.bin .add (.call 0 "put_number" (.cons (.bi1 .len (.var 0 "text" ⟨30, 26, 30, 30⟩) ⟨30, 22, 30, 25⟩ ⟨30, 22, 30, 31⟩) .nil) ⟨30, 11, 30, 21⟩ ⟨30, 11, 30, 32⟩) (.biL .tup (.lc b2_0 (.name ⟨2, "sign", ⟨30, 67, 30, 71⟩⟩) (.a (.var 0 "text" ⟨30, 75, 30, 79⟩)) .none sc0 [(".0", 1), ("sign", 2)] ⟨30, 41, 30, 80⟩) ⟨30, 35, 30, 40⟩ ⟨30, 35, 30, 81⟩) ⟨30, 11, 30, 81⟩) ⟨30, 4, 30, 81⟩) .nil))
def N2 : List Str := [("text" : Str), (".0" : Str), ("sign" : Str)]
def f2 : Fn := ⟨1, 3, true, b2⟩
def b3_0 : Ex := (.sub (.glb 0 "ALPHABET" ⟨36, 21, 36, 29⟩) (.var 5 "a" ⟨36, 30, 36, 31⟩) ⟨36, 21, 36, 32⟩)
def b3_1 : Ex := (.cmp .lt (.var 5 "a" ⟨34, 36, 34, 37⟩) (.bi1 .len (.glb 0 "ALPHABET" ⟨34, 44, 34, 52⟩) ⟨34, 40, 34, 43⟩ ⟨34, 40, 34, 53⟩) ⟨34, 36, 34, 53⟩)
def b3 : Stms := (.cons (.asg (.tup [⟨2, "size", ⟨32, 4, 32, 8⟩⟩, ⟨1, "at", ⟨32, 10, 32, 12⟩⟩] 0 ⟨32, 4, 32, 12⟩) (.call 1 "take_number" (.cons (.var 0 "row" ⟨32, 27, 32, 30⟩) (.cons (.var 1 "at" ⟨32, 32, 32, 34⟩) .nil)) ⟨32, 15, 32, 26⟩ ⟨32, 15, 32, 35⟩) ⟨32, 4, 32, 35⟩) (.cons (.asg (.name ⟨3, "part", ⟨33, 4, 33, 8⟩⟩) (.slice (.var 0 "row" ⟨33, 11, 33, 14⟩) (.some (.var 1 "at" ⟨33, 15, 33, 17⟩)) (.some (.bin .add (.var 1 "at" ⟨33, 18, 33, 20⟩) (.var 2 "size" ⟨33, 23, 33, 27⟩) ⟨33, 18, 33, 27⟩)) ⟨33, 15, 33, 27⟩ ⟨33, 11, 33, 28⟩) ⟨33, 4, 33, 28⟩) (.cons (.ifs (.or (.cons (.cmp .lt (.bi1 .len (.var 3 "part" ⟨34, 11, 34, 15⟩) ⟨34, 7, 34, 10⟩ ⟨34, 7, 34, 16⟩) (.var 2 "size" ⟨34, 19, 34, 23⟩) ⟨34, 7, 34, 23⟩) (.cons (.not (.biL .all (.lc b3_1 (.name ⟨5, "a", ⟨34, 58, 34, 59⟩⟩) (.a (.var 3 "part" ⟨34, 63, 34, 67⟩)) .none sc2 [(".0", 4), ("a", 5)] ⟨34, 35, 34, 68⟩) ⟨34, 31, 34, 34⟩ ⟨34, 31, 34, 69⟩) ⟨34, 27, 34, 69⟩) .nil)) ⟨34, 7, 34, 69⟩) (.cons (.rais 0 "InvalidBytes" "a text is cut off" 0 ⟨35, 14, 35, 26⟩ ⟨35, 27, 35, 46⟩ ⟨35, 14, 35, 47⟩ ⟨35, 8, 35, 47⟩) .nil) .nil ⟨34, 4, 35, 47⟩) (.cons (.ret (.tup (.cons (.join (.str "" 0 ⟨36, 12, 36, 14⟩) (.lc b3_0 (.name ⟨5, "a", ⟨36, 37, 36, 38⟩⟩) (.a (.var 3 "part" ⟨36, 42, 36, 46⟩)) .none sc1 [(".0", 4), ("a", 5)] ⟨36, 20, 36, 47⟩) ⟨36, 12, 36, 19⟩ ⟨36, 12, 36, 48⟩) (.cons (.bin .add (.var 1 "at" ⟨36, 50, 36, 52⟩) (.var 2 "size" ⟨36, 55, 36, 59⟩) ⟨36, 50, 36, 59⟩) .nil)) 0 ⟨36, 11, 36, 60⟩) ⟨36, 4, 36, 60⟩) .nil))))
def N3 : List Str := [("row" : Str), ("at" : Str), ("size" : Str), ("part" : Str), (".0" : Str), ("a" : Str)]
def f3 : Fn := ⟨2, 6, true, b3⟩
def b4 : Stms := (.cons (.ret (.call 5 "bytes_of" (.cons (.var 0 "thing" ⟨38, 20, 38, 25⟩) (.cons (.glb 1 "MOST_DEEP" ⟨38, 27, 38, 36⟩) .nil)) ⟨38, 11, 38, 19⟩ ⟨38, 11, 38, 37⟩) ⟨38, 4, 38, 37⟩) .nil)
def N4 : List Str := [("thing" : Str)]
def f4 : Fn := ⟨1, 1, true, b4⟩
def b5_0 : Stms := (.cons (.asg (.name ⟨2, "found", ⟨49, 12, 49, 17⟩⟩) (.bin .add (.var 2 "found" ⟨49, 20, 49, 25⟩) (.call 5 "bytes_of" (.cons (.var 3 "part" ⟨49, 37, 49, 41⟩) (.cons (.bin .sub (.var 1 "left" ⟨49, 43, 49, 47⟩) (.int 1 0 ⟨49, 50, 49, 51⟩) ⟨49, 43, 49, 51⟩) .nil)) ⟨49, 28, 49, 36⟩ ⟨49, 28, 49, 52⟩) ⟨49, 20, 49, 52⟩) ⟨49, 12, 49, 52⟩) .nil)
def b5 : Stms := (.cons (.ifs (.cmp .lt (.var 1 "left" ⟨40, 7, 40, 11⟩) (.int 1 0 ⟨40, 14, 40, 15⟩) ⟨40, 7, 40, 15⟩) (.cons (.rais 0 "InvalidBytes" "a thing is nested too deep" 0 ⟨41, 14, 41, 26⟩ ⟨41, 27, 41, 55⟩ ⟨41, 14, 41, 56⟩ ⟨41, 8, 41, 56⟩) .nil) .nil ⟨40, 4, 41, 56⟩) (.cons (.ifs (.isN (.var 0 "thing" ⟨42, 7, 42, 12⟩) 0 ⟨42, 16, 42, 20⟩ ⟨42, 7, 42, 20⟩) (.cons (.ret (.tup (.cons (.int 0 0 ⟨43, 16, 43, 17⟩) .nil) 0 ⟨43, 15, 43, 19⟩) ⟨43, 8, 43, 19⟩) .nil) .nil ⟨42, 4, 43, 19⟩) (.cons (.ifs (.isi (.var 0 "thing" ⟨44, 18, 44, 23⟩) .str ⟨44, 7, 44, 17⟩ ⟨44, 25, 44, 28⟩ ⟨44, 7, 44, 29⟩) (.cons (.ret (.bin .add (.tup (.cons (.int 2 0 ⟨45, 16, 45, 17⟩) .nil) 0 ⟨45, 15, 45, 19⟩) (.call 2 "put_text" (.cons (.var 0 "thing" ⟨45, 31, 45, 36⟩) .nil) ⟨45, 22, 45, 30⟩ ⟨45, 22, 45, 37⟩) ⟨45, 15, 45, 37⟩) ⟨45, 8, 45, 37⟩) .nil) .nil ⟨44, 4, 45, 37⟩) (.cons (.ifs (.isi (.var 0 "thing" ⟨46, 18, 46, 23⟩) .tup ⟨46, 7, 46, 17⟩ ⟨46, 25, 46, 30⟩ ⟨46, 7, 46, 31⟩) (.cons (.asg (.name ⟨2, "found", ⟨47, 8, 47, 13⟩⟩) (.bin .add (.tup (.cons (.int 3 0 ⟨47, 17, 47, 18⟩) .nil) 0 ⟨47, 16, 47, 20⟩) (.call 0 "put_number" (.cons (.bi1 .len (.var 0 "thing" ⟨47, 38, 47, 43⟩) ⟨47, 34, 47, 37⟩ ⟨47, 34, 47, 44⟩) .nil) ⟨47, 23, 47, 33⟩ ⟨47, 23, 47, 45⟩) ⟨47, 16, 47, 45⟩) ⟨47, 8, 47, 45⟩) (.cons (.forr (.name ⟨3, "part", ⟨48, 12, 48, 16⟩⟩) (.a (.var 0 "thing" ⟨48, 20, 48, 25⟩)) b5_0 ⟨48, 8, 49, 52⟩) (.cons (.ret (.var 2 "found" ⟨50, 15, 50, 20⟩) ⟨50, 8, 50, 20⟩) .nil))) .nil ⟨46, 4, 50, 20⟩) (.cons (.ret (.bin .add (.tup (.cons (.int 1 0 ⟨51, 12, 51, 13⟩) .nil) 0 ⟨51, 11, 51, 15⟩) (.call 0 "put_number" (.cons (.var 0 "thing" ⟨51, 29, 51, 34⟩) .nil) ⟨51, 18, 51, 28⟩ ⟨51, 18, 51, 35⟩) ⟨51, 11, 51, 35⟩) ⟨51, 4, 51, 35⟩) .nil)))))
def N5 : List Str := [("thing" : Str), ("left" : Str), ("found" : Str), ("part" : Str)]
def f5 : Fn := ⟨2, 4, true, b5⟩
def b6 : Stms := (.cons (.ret (.call 7 "thing_at" (.cons (.var 0 "row" ⟨53, 20, 53, 23⟩) (.cons (.var 1 "at" ⟨53, 25, 53, 27⟩) (.cons (.glb 1 "MOST_DEEP" ⟨53, 29, 53, 38⟩) .nil))) ⟨53, 11, 53, 19⟩ ⟨53, 11, 53, 39⟩) ⟨53, 4, 53, 39⟩) .nil)
def N6 : List Str := [("row" : Str), ("at" : Str)]
def f6 : Fn := ⟨2, 2, true, b6⟩
def b7_0 : Stms := (.cons (.asg (.tup [⟨7, "part", ⟨71, 8, 71, 12⟩⟩, ⟨1, "at", ⟨71, 14, 71, 16⟩⟩] 0 ⟨71, 8, 71, 16⟩) (.call 7 "thing_at" (.cons (.var 0 "row" ⟨71, 28, 71, 31⟩) (.cons (.var 1 "at" ⟨71, 33, 71, 35⟩) (.cons (.bin .sub (.var 2 "left" ⟨71, 37, 71, 41⟩) (.int 1 0 ⟨71, 44, 71, 45⟩) ⟨71, 37, 71, 45⟩) .nil))) ⟨71, 19, 71, 27⟩ ⟨71, 19, 71, 46⟩) ⟨71, 8, 71, 46⟩) (.cons (.app (.var 5 "found" ⟨72, 8, 72, 13⟩) (.var 7 "part" ⟨72, 21, 72, 25⟩) ⟨72, 8, 72, 20⟩ ⟨72, 8, 72, 26⟩ ⟨72, 8, 72, 26⟩) .nil))
def b7 : Stms := (.cons (.ifs (.cmp .lt (.var 2 "left" ⟨55, 7, 55, 11⟩) (.int 1 0 ⟨55, 14, 55, 15⟩) ⟨55, 7, 55, 15⟩) (.cons (.rais 0 "InvalidBytes" "a thing is nested too deep" 0 ⟨56, 14, 56, 26⟩ ⟨56, 27, 56, 55⟩ ⟨56, 14, 56, 56⟩ ⟨56, 8, 56, 56⟩) .nil) .nil ⟨55, 4, 56, 56⟩) (.cons (.ifs (.cmp .ge (.var 1 "at" ⟨57, 7, 57, 9⟩) (.bi1 .len (.var 0 "row" ⟨57, 17, 57, 20⟩) ⟨57, 13, 57, 16⟩ ⟨57, 13, 57, 21⟩) ⟨57, 7, 57, 21⟩) (.cons (.rais 0 "InvalidBytes" "a thing is cut off" 0 ⟨58, 14, 58, 26⟩ ⟨58, 27, 58, 47⟩ ⟨58, 14, 58, 48⟩ ⟨58, 8, 58, 48⟩) .nil) .nil ⟨57, 4, 58, 48⟩) (.cons (.asg (.name ⟨3, "mark", ⟨59, 4, 59, 8⟩⟩) (.sub (.var 0 "row" ⟨59, 11, 59, 14⟩) (.var 1 "at" ⟨59, 15, 59, 17⟩) ⟨59, 11, 59, 18⟩) ⟨59, 4, 59, 18⟩) (.cons (.ifs (.cmp .eq (.var 3 "mark" ⟨60, 7, 60, 11⟩) (.int 0 0 ⟨60, 15, 60, 16⟩) ⟨60, 7, 60, 16⟩) (.cons (.ret (.tup (.cons (.non 0 ⟨61, 16, 61, 20⟩) (.cons (.bin .add (.var 1 "at" ⟨61, 22, 61, 24⟩) (.int 1 0 ⟨61, 27, 61, 28⟩) ⟨61, 22, 61, 28⟩) .nil)) 0 ⟨61, 15, 61, 29⟩) ⟨61, 8, 61, 29⟩) .nil) .nil ⟨60, 4, 61, 29⟩) (.cons (.ifs (.cmp .eq (.var 3 "mark" ⟨62, 7, 62, 11⟩) (.int 1 0 ⟨62, 15, 62, 16⟩) ⟨62, 7, 62, 16⟩) (.cons (.ret (.call 1 "take_number" (.cons (.var 0 "row" ⟨63, 27, 63, 30⟩) (.cons (.bin .add (.var 1 "at" ⟨63, 32, 63, 34⟩) (.int 1 0 ⟨63, 37, 63, 38⟩) ⟨63, 32, 63, 38⟩) .nil)) ⟨63, 15, 63, 26⟩ ⟨63, 15, 63, 39⟩) ⟨63, 8, 63, 39⟩) .nil) .nil ⟨62, 4, 63, 39⟩) (.cons (.ifs (.cmp .eq (.var 3 "mark" ⟨64, 7, 64, 11⟩) (.int 2 0 ⟨64, 15, 64, 16⟩) ⟨64, 7, 64, 16⟩) (.cons (.ret (.call 3 "take_text" (.cons (.var 0 "row" ⟨65, 25, 65, 28⟩) (.cons (.bin .add (.var 1 "at" ⟨65, 30, 65, 32⟩) (.int 1 0 ⟨65, 35, 65, 36⟩) ⟨65, 30, 65, 36⟩) .nil)) ⟨65, 15, 65, 24⟩ ⟨65, 15, 65, 37⟩) ⟨65, 8, 65, 37⟩) .nil) .nil ⟨64, 4, 65, 37⟩) (.cons (.ifs (.cmp .ne (.var 3 "mark" ⟨66, 7, 66, 11⟩) (.int 3 0 ⟨66, 15, 66, 16⟩) ⟨66, 7, 66, 16⟩) (.cons (.rais 0 "InvalidBytes" "a mark is refused" 0 ⟨67, 14, 67, 26⟩ ⟨67, 27, 67, 46⟩ ⟨67, 14, 67, 47⟩ ⟨67, 8, 67, 47⟩) .nil) .nil ⟨66, 4, 67, 47⟩) (.cons (.asg (.tup [⟨4, "size", ⟨68, 4, 68, 8⟩⟩, ⟨1, "at", ⟨68, 10, 68, 12⟩⟩] 0 ⟨68, 4, 68, 12⟩) (.call 1 "take_number" (.cons (.var 0 "row" ⟨68, 27, 68, 30⟩) (.cons (.bin .add (.var 1 "at" ⟨68, 32, 68, 34⟩) (.int 1 0 ⟨68, 37, 68, 38⟩) ⟨68, 32, 68, 38⟩) .nil)) ⟨68, 15, 68, 26⟩ ⟨68, 15, 68, 39⟩) ⟨68, 4, 68, 39⟩) (.cons (.asgL ⟨5, "found", ⟨69, 4, 69, 9⟩⟩ (.disp .nil ⟨69, 12, 69, 14⟩) ⟨69, 4, 69, 14⟩) (.cons (.forr (.name ⟨6, "_", ⟨70, 8, 70, 9⟩⟩) (.r1 (.var 4 "size" ⟨70, 19, 70, 23⟩) ⟨70, 13, 70, 18⟩ ⟨70, 13, 70, 24⟩) b7_0 ⟨70, 4, 72, 26⟩) (.cons (.ret (.tup (.cons (.biL .tup (.ofE (.var 5 "found" ⟨73, 18, 73, 23⟩)) ⟨73, 12, 73, 17⟩ ⟨73, 12, 73, 24⟩) (.cons (.var 1 "at" ⟨73, 26, 73, 28⟩) .nil)) 0 ⟨73, 11, 73, 29⟩) ⟨73, 4, 73, 29⟩) .nil)))))))))))
def N7 : List Str := [("row" : Str), ("at" : Str), ("left" : Str), ("mark" : Str), ("size" : Str), ("found" : Str), ("_" : Str), ("part" : Str)]
def f7 : Fn := ⟨3, 8, true, b7⟩
def b8_0 : Stms := (.cons (.asg (.name ⟨1, "low", ⟨77, 8, 77, 11⟩⟩) (.bin .mod (.bin .add (.var 1 "low" ⟨77, 15, 77, 18⟩) (.var 3 "a" ⟨77, 21, 77, 22⟩) ⟨77, 15, 77, 22⟩) (.int 65521 0 ⟨77, 26, 77, 31⟩) ⟨77, 14, 77, 31⟩) ⟨77, 8, 77, 31⟩) (.cons (.asg (.name ⟨2, "high", ⟨78, 8, 78, 12⟩⟩) (.bin .mod (.bin .add (.var 2 "high" ⟨78, 16, 78, 20⟩) (.var 1 "low" ⟨78, 23, 78, 26⟩) ⟨78, 16, 78, 26⟩) (.int 65521 0 ⟨78, 30, 78, 35⟩) ⟨78, 15, 78, 35⟩) ⟨78, 8, 78, 35⟩) .nil))
def b8 : Stms := (.cons (.asg (.tup [⟨1, "low", ⟨75, 4, 75, 7⟩⟩, ⟨2, "high", ⟨75, 9, 75, 13⟩⟩] 0 ⟨75, 4, 75, 13⟩) (.tup (.cons (.int 1 0 ⟨75, 17, 75, 18⟩) (.cons (.int 0 0 ⟨75, 20, 75, 21⟩) .nil)) 0 ⟨75, 16, 75, 22⟩) ⟨75, 4, 75, 22⟩) (.cons (.forr (.name ⟨3, "a", ⟨76, 8, 76, 9⟩⟩) (.a (.var 0 "row" ⟨76, 13, 76, 16⟩)) b8_0 ⟨76, 4, 78, 35⟩) (.cons (.ret (.bin .add (.bin .mul (.var 2 "high" ⟨79, 11, 79, 15⟩) (.int 65521 0 ⟨79, 18, 79, 23⟩) ⟨79, 11, 79, 23⟩) (.var 1 "low" ⟨79, 26, 79, 29⟩) ⟨79, 11, 79, 29⟩) ⟨79, 4, 79, 29⟩) .nil)))
def N8 : List Str := [("row" : Str), ("low" : Str), ("high" : Str), ("a" : Str)]
def f8 : Fn := ⟨1, 4, true, b8⟩
def b9 : Stms := (.cons (.asg (.name ⟨1, "body", ⟨81, 4, 81, 8⟩⟩) (.call 4 "put_thing" (.cons (.var 0 "thing" ⟨81, 21, 81, 26⟩) .nil) ⟨81, 11, 81, 20⟩ ⟨81, 11, 81, 27⟩) ⟨81, 4, 81, 27⟩) (.cons (.ret (.bin .add (.bin .add (.call 0 "put_number" (.cons (.bi1 .len (.var 1 "body" ⟨82, 26, 82, 30⟩) ⟨82, 22, 82, 25⟩ ⟨82, 22, 82, 31⟩) .nil) ⟨82, 11, 82, 21⟩ ⟨82, 11, 82, 32⟩) (.call 0 "put_number" (.cons (.call 8 "check_sum" (.cons (.var 1 "body" ⟨82, 56, 82, 60⟩) .nil) ⟨82, 46, 82, 55⟩ ⟨82, 46, 82, 61⟩) .nil) ⟨82, 35, 82, 45⟩ ⟨82, 35, 82, 62⟩) ⟨82, 11, 82, 62⟩) (.var 1 "body" ⟨82, 65, 82, 69⟩) ⟨82, 11, 82, 69⟩) ⟨82, 4, 82, 69⟩) .nil))
def N9 : List Str := [("thing" : Str), ("body" : Str)]
def f9 : Fn := ⟨1, 2, true, b9⟩
def b10 : Stms := (.cons (.asg (.tup [⟨2, "size", ⟨84, 4, 84, 8⟩⟩, ⟨1, "at", ⟨84, 10, 84, 12⟩⟩] 0 ⟨84, 4, 84, 12⟩) (.call 1 "take_number" (.cons (.var 0 "row" ⟨84, 27, 84, 30⟩) (.cons (.var 1 "at" ⟨84, 32, 84, 34⟩) .nil)) ⟨84, 15, 84, 26⟩ ⟨84, 15, 84, 35⟩) ⟨84, 4, 84, 35⟩) (.cons (.asg (.tup [⟨3, "check", ⟨85, 4, 85, 9⟩⟩, ⟨1, "at", ⟨85, 11, 85, 13⟩⟩] 0 ⟨85, 4, 85, 13⟩) (.call 1 "take_number" (.cons (.var 0 "row" ⟨85, 28, 85, 31⟩) (.cons (.var 1 "at" ⟨85, 33, 85, 35⟩) .nil)) ⟨85, 16, 85, 27⟩ ⟨85, 16, 85, 36⟩) ⟨85, 4, 85, 36⟩) (.cons (.asg (.name ⟨4, "body", ⟨86, 4, 86, 8⟩⟩) (.slice (.var 0 "row" ⟨86, 11, 86, 14⟩) (.some (.var 1 "at" ⟨86, 15, 86, 17⟩)) (.some (.bin .add (.var 1 "at" ⟨86, 18, 86, 20⟩) (.var 2 "size" ⟨86, 23, 86, 27⟩) ⟨86, 18, 86, 27⟩)) ⟨86, 15, 86, 27⟩ ⟨86, 11, 86, 28⟩) ⟨86, 4, 86, 28⟩) (.cons (.ifs (.or (.cons (.cmp .eq (.var 2 "size" ⟨87, 7, 87, 11⟩) (.int 0 0 ⟨87, 15, 87, 16⟩) ⟨87, 7, 87, 16⟩) (.cons (.cmp .lt (.bi1 .len (.var 4 "body" ⟨87, 24, 87, 28⟩) ⟨87, 20, 87, 23⟩ ⟨87, 20, 87, 29⟩) (.var 2 "size" ⟨87, 32, 87, 36⟩) ⟨87, 20, 87, 36⟩) (.cons (.cmp .ne (.call 8 "check_sum" (.cons (.var 4 "body" ⟨87, 50, 87, 54⟩) .nil) ⟨87, 40, 87, 49⟩ ⟨87, 40, 87, 55⟩) (.var 3 "check" ⟨87, 59, 87, 64⟩) ⟨87, 40, 87, 64⟩) .nil))) ⟨87, 7, 87, 64⟩) (.cons (.rais 0 "InvalidBytes" "bytes are torn" 0 ⟨88, 14, 88, 26⟩ ⟨88, 27, 88, 43⟩ ⟨88, 14, 88, 44⟩ ⟨88, 8, 88, 44⟩) .nil) .nil ⟨87, 4, 88, 44⟩) (.cons (.asg (.tup [⟨5, "thing", ⟨89, 4, 89, 9⟩⟩, ⟨6, "end", ⟨89, 11, 89, 14⟩⟩] 0 ⟨89, 4, 89, 14⟩) (.call 6 "take_thing" (.cons (.var 4 "body" ⟨89, 28, 89, 32⟩) (.cons (.int 0 0 ⟨89, 34, 89, 35⟩) .nil)) ⟨89, 17, 89, 27⟩ ⟨89, 17, 89, 36⟩) ⟨89, 4, 89, 36⟩) (.cons (.ifs (.cmp .ne (.var 6 "end" ⟨90, 7, 90, 10⟩) (.var 2 "size" ⟨90, 14, 90, 18⟩) ⟨90, 7, 90, 18⟩) (.cons (.rais 0 "InvalidBytes" "bytes are left over" 0 ⟨91, 14, 91, 26⟩ ⟨91, 27, 91, 48⟩ ⟨91, 14, 91, 49⟩ ⟨91, 8, 91, 49⟩) .nil) .nil ⟨90, 4, 91, 49⟩) (.cons (.ret (.tup (.cons (.var 5 "thing" ⟨92, 12, 92, 17⟩) (.cons (.bin .add (.var 1 "at" ⟨92, 19, 92, 21⟩) (.var 2 "size" ⟨92, 24, 92, 28⟩) ⟨92, 19, 92, 28⟩) .nil)) 0 ⟨92, 11, 92, 29⟩) ⟨92, 4, 92, 29⟩) .nil)))))))
def N10 : List Str := [("row" : Str), ("at" : Str), ("size" : Str), ("check" : Str), ("body" : Str), ("thing" : Str), ("end" : Str)]
def f10 : Fn := ⟨2, 7, true, b10⟩
def b11_0 : Stms := (.cons (.asg (.name ⟨3, "seed", ⟨98, 8, 98, 12⟩⟩) (.bin .mod (.bi1 .int (.bin .add (.bin .mul (.var 3 "seed" ⟨98, 19, 98, 23⟩) (.int 31 0 ⟨98, 26, 98, 28⟩) ⟨98, 19, 98, 28⟩) (.var 1 "cell" ⟨98, 31, 98, 35⟩) ⟨98, 19, 98, 35⟩) ⟨98, 15, 98, 18⟩ ⟨98, 15, 98, 36⟩) (.int 2147483647 0 ⟨98, 39, 98, 49⟩) ⟨98, 15, 98, 49⟩) ⟨98, 8, 98, 49⟩) .nil)
def b11_1 : Ex := (.bi1 .abs (.bi1 .int (.var 1 "cell" ⟨95, 21, 95, 25⟩) ⟨95, 17, 95, 20⟩ ⟨95, 17, 95, 26⟩) ⟨95, 13, 95, 16⟩ ⟨95, 13, 95, 27⟩)
def b11 : Stms := (.cons (.asgL ⟨2, "cells", ⟨95, 4, 95, 9⟩⟩ (.lc b11_1 (.name ⟨1, "cell", ⟨95, 32, 95, 36⟩⟩) (.a (.var 0 "script" ⟨95, 40, 95, 46⟩)) .none sc3 [(".0", 4), ("cell", 1)] ⟨95, 12, 95, 47⟩) ⟨95, 4, 95, 47⟩) (.cons (.asg (.name ⟨3, "seed", ⟨96, 4, 96, 8⟩⟩) (.int 7 0 ⟨96, 11, 96, 12⟩) ⟨96, 4, 96, 12⟩) (.cons (.forr (.name ⟨1, "cell", ⟨97, 8, 97, 12⟩⟩) (.a (.var 2 "cells" ⟨97, 16, 97, 21⟩)) b11_0 ⟨97, 4, 98, 49⟩) (.cons (.ret (.dct [("cells", 0, ⟨99, 12, 99, 19⟩), ("at", 0, ⟨99, 28, 99, 32⟩), ("left", 0, ⟨99, 37, 99, 43⟩), ("seed", 0, ⟨99, 48, 99, 54⟩), ("salt", 0, ⟨99, 62, 99, 68⟩)] (.cons (.var 2 "cells" ⟨99, 21, 99, 26⟩) (.cons (.int 0 0 ⟨99, 34, 99, 35⟩) (.cons (.int 0 0 ⟨99, 45, 99, 46⟩) (.cons (.var 3 "seed" ⟨99, 56, 99, 60⟩) (.cons (.int 0 0 ⟨99, 70, 99, 71⟩) .nil))))) ⟨99, 11, 99, 72⟩) ⟨99, 4, 99, 72⟩) .nil))))
def N11 : List Str := [("script" : Str), ("cell" : Str), ("cells" : Str), ("seed" : Str), (".0" : Str)]
def f11 : Fn := ⟨1, 5, false, b11⟩
def b12 : Stms := (.cons (.ifs (.and (.cons (.cmp .eq (.sub (.var 0 "tape" ⟨101, 7, 101, 11⟩) (.str "left" 0 ⟨101, 12, 101, 18⟩) ⟨101, 7, 101, 19⟩) (.int 0 0 ⟨101, 23, 101, 24⟩) ⟨101, 7, 101, 24⟩) (.cons (.cmp .lt (.sub (.var 0 "tape" ⟨101, 29, 101, 33⟩) (.str "at" 0 ⟨101, 34, 101, 38⟩) ⟨101, 29, 101, 39⟩) (.bi1 .len (.sub (.var 0 "tape" ⟨101, 46, 101, 50⟩) (.str "cells" 0 ⟨101, 51, 101, 58⟩) ⟨101, 46, 101, 59⟩) ⟨101, 42, 101, 45⟩ ⟨101, 42, 101, 60⟩) ⟨101, 29, 101, 60⟩) .nil)) ⟨101, 7, 101, 60⟩) (.cons (.setD (.var 0 "tape" ⟨102, 8, 102, 12⟩) (.str "left" 0 ⟨102, 13, 102, 19⟩) (.sub (.sub (.var 0 "tape" ⟨102, 23, 102, 27⟩) (.str "cells" 0 ⟨102, 28, 102, 35⟩) ⟨102, 23, 102, 36⟩) (.sub (.var 0 "tape" ⟨102, 37, 102, 41⟩) (.str "at" 0 ⟨102, 42, 102, 46⟩) ⟨102, 37, 102, 47⟩) ⟨102, 23, 102, 48⟩) ⟨102, 8, 102, 20⟩ ⟨102, 8, 102, 48⟩) (.cons (.setD (.var 0 "tape" ⟨103, 8, 103, 12⟩) (.str "at" 0 ⟨103, 13, 103, 17⟩) (.bin .add (.sub (.var 0 "tape" ⟨103, 21, 103, 25⟩) (.str "at" 0 ⟨103, 26, 103, 30⟩) ⟨103, 21, 103, 31⟩) (.int 1 0 ⟨103, 34, 103, 35⟩) ⟨103, 21, 103, 35⟩) ⟨103, 8, 103, 18⟩ ⟨103, 8, 103, 35⟩) .nil)) .nil ⟨101, 4, 103, 35⟩) (.cons (.ifs (.cmp .gt (.sub (.var 0 "tape" ⟨104, 7, 104, 11⟩) (.str "left" 0 ⟨104, 12, 104, 18⟩) ⟨104, 7, 104, 19⟩) (.int 0 0 ⟨104, 22, 104, 23⟩) ⟨104, 7, 104, 23⟩) (.cons (.asg (.name ⟨2, "drawn", ⟨105, 8, 105, 13⟩⟩) (.bin .mod (.bi1 .int (.sub (.var 0 "tape" ⟨105, 20, 105, 24⟩) (.str "left" 0 ⟨105, 25, 105, 31⟩) ⟨105, 20, 105, 32⟩) ⟨105, 16, 105, 19⟩ ⟨105, 16, 105, 33⟩) (.var 1 "many" ⟨105, 36, 105, 40⟩) ⟨105, 16, 105, 40⟩) ⟨105, 8, 105, 40⟩) (.cons (.setD (.var 0 "tape" ⟨106, 8, 106, 12⟩) (.str "left" 0 ⟨106, 13, 106, 19⟩) (.bin .fdiv (.sub (.var 0 "tape" ⟨106, 23, 106, 27⟩) (.str "left" 0 ⟨106, 28, 106, 34⟩) ⟨106, 23, 106, 35⟩) (.var 1 "many" ⟨106, 39, 106, 43⟩) ⟨106, 23, 106, 43⟩) ⟨106, 8, 106, 20⟩ ⟨106, 8, 106, 43⟩) (.cons (.ret (.var 2 "drawn" ⟨107, 15, 107, 20⟩) ⟨107, 8, 107, 20⟩) .nil))) .nil ⟨104, 4, 107, 20⟩) (.cons (.setD (.var 0 "tape" ⟨108, 4, 108, 8⟩) (.str "salt" 0 ⟨108, 9, 108, 15⟩) (.bin .add (.sub (.var 0 "tape" ⟨108, 19, 108, 23⟩) (.str "salt" 0 ⟨108, 24, 108, 30⟩) ⟨108, 19, 108, 31⟩) (.int 1 0 ⟨108, 34, 108, 35⟩) ⟨108, 19, 108, 35⟩) ⟨108, 4, 108, 16⟩ ⟨108, 4, 108, 35⟩) (.cons (.asg (.name ⟨3, "mixed", ⟨109, 4, 109, 9⟩⟩) (.bin .mod (.bi1 .int (.bin .add (.bin .mul (.sub (.var 0 "tape" ⟨109, 16, 109, 20⟩) (.str "seed" 0 ⟨109, 21, 109, 27⟩) ⟨109, 16, 109, 28⟩) (.int 48271 0 ⟨109, 31, 109, 36⟩) ⟨109, 16, 109, 36⟩) (.bin .mul (.sub (.var 0 "tape" ⟨109, 39, 109, 43⟩) (.str "salt" 0 ⟨109, 44, 109, 50⟩) ⟨109, 39, 109, 51⟩) (.int 69621 0 ⟨109, 54, 109, 59⟩) ⟨109, 39, 109, 59⟩) ⟨109, 16, 109, 59⟩) ⟨109, 12, 109, 15⟩ ⟨109, 12, 109, 60⟩) (.int 2147483647 0 ⟨109, 63, 109, 73⟩) ⟨109, 12, 109, 73⟩) ⟨109, 4, 109, 73⟩) (.cons (.asg (.name ⟨3, "mixed", ⟨110, 4, 110, 9⟩⟩) (.bin .mod (.bi1 .int (.bin .add (.bin .add (.bin .mul (.var 3 "mixed" ⟨110, 16, 110, 21⟩) (.var 3 "mixed" ⟨110, 24, 110, 29⟩) ⟨110, 16, 110, 29⟩) (.bin .mul (.sub (.var 0 "tape" ⟨110, 32, 110, 36⟩) (.str "salt" 0 ⟨110, 37, 110, 43⟩) ⟨110, 32, 110, 44⟩) (.int 40692 0 ⟨110, 47, 110, 52⟩) ⟨110, 32, 110, 52⟩) ⟨110, 16, 110, 52⟩) (.int 12345 0 ⟨110, 55, 110, 60⟩) ⟨110, 16, 110, 60⟩) ⟨110, 12, 110, 15⟩ ⟨110, 12, 110, 61⟩) (.int 2147483399 0 ⟨110, 64, 110, 74⟩) ⟨110, 12, 110, 74⟩) ⟨110, 4, 110, 74⟩) (.cons (.ret (.bin .mod (.bi1 .int (.var 3 "mixed" ⟨111, 15, 111, 20⟩) ⟨111, 11, 111, 14⟩ ⟨111, 11, 111, 21⟩) (.var 1 "many" ⟨111, 24, 111, 28⟩) ⟨111, 11, 111, 28⟩) ⟨111, 4, 111, 28⟩) .nil))))))
def N12 : List Str := [("tape" : Str), ("many" : Str), ("drawn" : Str), ("mixed" : Str)]
def f12 : Fn := ⟨2, 4, false, b12⟩
def b13_0 : Ex := (.call 13 "_law_thing" (.cons (.var 0 "tape" ⟨126, 29, 126, 33⟩) (.cons (.bin .sub (.var 1 "deep" ⟨126, 35, 126, 39⟩) (.int 1 0 ⟨126, 42, 126, 43⟩) ⟨126, 35, 126, 43⟩) .nil)) ⟨126, 18, 126, 28⟩ ⟨126, 18, 126, 44⟩)
def b13_1 : Ex := (.sub (.glb 0 "ALPHABET" ⟨125, 24, 125, 32⟩) (.call 12 "_law_take" (.cons (.var 0 "tape" ⟨125, 43, 125, 47⟩) (.cons (.bi1 .len (.glb 0 "ALPHABET" ⟨125, 53, 125, 61⟩) ⟨125, 49, 125, 52⟩ ⟨125, 49, 125, 62⟩) .nil)) ⟨125, 33, 125, 42⟩ ⟨125, 33, 125, 63⟩) ⟨125, 24, 125, 64⟩)
def b13 : Stms := (.cons (.asg (.name ⟨2, "which", ⟨119, 4, 119, 9⟩⟩) (.call 12 "_law_take" (.cons (.var 0 "tape" ⟨119, 22, 119, 26⟩) (.cons (.ifx (.cmp .gt (.var 1 "deep" ⟨119, 33, 119, 37⟩) (.int 0 0 ⟨119, 40, 119, 41⟩) ⟨119, 33, 119, 41⟩) (.int 5 0 ⟨119, 28, 119, 29⟩) (.int 3 0 ⟨119, 47, 119, 48⟩) ⟨119, 28, 119, 48⟩) .nil)) ⟨119, 12, 119, 21⟩ ⟨119, 12, 119, 49⟩) ⟨119, 4, 119, 49⟩) (.cons (.ifs (.cmp .eq (.var 2 "which" ⟨120, 7, 120, 12⟩) (.int 0 0 ⟨120, 16, 120, 17⟩) ⟨120, 7, 120, 17⟩) (.cons (.ret (.non 0 ⟨121, 15, 121, 19⟩) ⟨121, 8, 121, 19⟩) .nil) .nil ⟨120, 4, 121, 19⟩) (.cons (.ifs (.cmp .eq (.var 2 "which" ⟨122, 7, 122, 12⟩) (.int 1 0 ⟨122, 16, 122, 17⟩) ⟨122, 7, 122, 17⟩) (.cons (.ret (.subL (.disp (.cons (.call 12 "_law_take" (.cons (.var 0 "tape" ⟨123, 26, 123, 30⟩) (.cons (.int 5 0 ⟨123, 32, 123, 33⟩) .nil)) ⟨123, 16, 123, 25⟩ ⟨123, 16, 123, 34⟩) (.cons (.bin .add (.int 127 0 ⟨123, 36, 123, 39⟩) (.call 12 "_law_take" (.cons (.var 0 "tape" ⟨123, 52, 123, 56⟩) (.cons (.int 3 0 ⟨123, 58, 123, 59⟩) .nil)) ⟨123, 42, 123, 51⟩ ⟨123, 42, 123, 60⟩) ⟨123, 36, 123, 60⟩) (.cons (.bin .add (.int 16383 0 ⟨123, 62, 123, 67⟩) (.call 12 "_law_take" (.cons (.var 0 "tape" ⟨123, 80, 123, 84⟩) (.cons (.int 3 0 ⟨123, 86, 123, 87⟩) .nil)) ⟨123, 70, 123, 79⟩ ⟨123, 70, 123, 88⟩) ⟨123, 62, 123, 88⟩) (.cons (.bin .mul (.int 70000 0 ⟨123, 90, 123, 95⟩) (.call 12 "_law_take" (.cons (.var 0 "tape" ⟨123, 108, 123, 112⟩) (.cons (.int 60000 0 ⟨123, 114, 123, 119⟩) .nil)) ⟨123, 98, 123, 107⟩ ⟨123, 98, 123, 120⟩) ⟨123, 90, 123, 120⟩) .nil)))) ⟨123, 15, 123, 121⟩) (.call 12 "_law_take" (.cons (.var 0 "tape" ⟨123, 132, 123, 136⟩) (.cons (.int 4 0 ⟨123, 138, 123, 139⟩) .nil)) ⟨123, 122, 123, 131⟩ ⟨123, 122, 123, 140⟩) ⟨123, 15, 123, 141⟩) ⟨123, 8, 123, 141⟩) .nil) .nil ⟨122, 4, 123, 141⟩) (.cons (.ifs (.cmp .eq (.var 2 "which" ⟨124, 7, 124, 12⟩) (.int 2 0 ⟨124, 16, 124, 17⟩) ⟨124, 7, 124, 17⟩) (.cons (.ret (.join (.str "" 0 ⟨125, 15, 125, 17⟩) (.lc b13_1 (.name ⟨4, "k", ⟨125, 69, 125, 70⟩⟩) (.r1 (.call 12 "_law_take" (.cons (.var 0 "tape" ⟨125, 90, 125, 94⟩) (.cons (.int 5 0 ⟨125, 96, 125, 97⟩) .nil)) ⟨125, 80, 125, 89⟩ ⟨125, 80, 125, 98⟩) ⟨125, 74, 125, 79⟩ ⟨125, 74, 125, 99⟩) .none sc5 [(".0", 3), ("k", 4)] ⟨125, 23, 125, 100⟩) ⟨125, 15, 125, 22⟩ ⟨125, 15, 125, 101⟩) ⟨125, 8, 125, 101⟩) .nil) .nil ⟨124, 4, 125, 101⟩) (.cons (.ret (.biL .tup (.lc b13_0 (.name ⟨4, "k", ⟨126, 49, 126, 50⟩⟩) (.r1 (.call 12 "_law_take" (.cons (.var 0 "tape" ⟨126, 70, 126, 74⟩) (.cons (.int 4 0 ⟨126, 76, 126, 77⟩) .nil)) ⟨126, 60, 126, 69⟩ ⟨126, 60, 126, 78⟩) ⟨126, 54, 126, 59⟩ ⟨126, 54, 126, 79⟩) .none sc4 [(".0", 3), ("k", 4)] ⟨126, 17, 126, 80⟩) ⟨126, 11, 126, 16⟩ ⟨126, 11, 126, 81⟩) ⟨126, 4, 126, 81⟩) .nil)))))
def N13 : List Str := [("tape" : Str), ("deep" : Str), ("which" : Str), (".0" : Str), ("k" : Str)]
def f13 : Fn := ⟨2, 5, false, b13⟩
def b14_0 : Ex := (.cmp .ge (.var 0 "number" ⟨129, 10, 129, 16⟩) (.int 128 0 ⟨129, 20, 129, 23⟩) ⟨129, 10, 129, 23⟩)
def b14_1 : Stms := (.cons (.app (.var 1 "found" ⟨130, 8, 130, 13⟩) (.bin .add (.bin .mod (.bi1 .int (.var 0 "number" ⟨130, 25, 130, 31⟩) ⟨130, 21, 130, 24⟩ ⟨130, 21, 130, 32⟩) (.int 128 0 ⟨130, 35, 130, 38⟩) ⟨130, 21, 130, 38⟩) (.int 128 0 ⟨130, 41, 130, 44⟩) ⟨130, 21, 130, 44⟩) ⟨130, 8, 130, 20⟩ ⟨130, 8, 130, 45⟩ ⟨130, 8, 130, 45⟩) (.cons (.asg (.name ⟨0, "number", ⟨131, 8, 131, 14⟩⟩) (.bin .fdiv (.var 0 "number" ⟨131, 17, 131, 23⟩) (.int 128 0 ⟨131, 27, 131, 30⟩) ⟨131, 17, 131, 30⟩) ⟨131, 8, 131, 30⟩) .nil))
def b14 : Stms := (.cons (.asgL ⟨1, "found", ⟨128, 4, 128, 9⟩⟩ (.disp .nil ⟨128, 12, 128, 14⟩) ⟨128, 4, 128, 14⟩) (.cons (.whil b14_0 b14_1 ⟨129, 4, 131, 30⟩) (.cons (.ret (.biL .tup (.cat (.ofE (.var 1 "found" ⟨132, 17, 132, 22⟩)) (.disp (.cons (.var 0 "number" ⟨132, 26, 132, 32⟩) .nil) ⟨132, 25, 132, 33⟩) ⟨132, 17, 132, 33⟩) ⟨132, 11, 132, 16⟩ ⟨132, 11, 132, 34⟩) ⟨132, 4, 132, 34⟩) .nil)))
def N14 : List Str := [("number" : Str), ("found" : Str)]
def f14 : Fn := ⟨1, 2, true, b14⟩
def b15_0 : Stms := (.cons (.asg (.name ⟨1, "found", ⟨141, 12, 141, 17⟩⟩) (.bin .add (.var 1 "found" ⟨141, 20, 141, 25⟩) (.call 15 "_law_bytes" (.cons (.var 2 "part" ⟨141, 39, 141, 43⟩) .nil) ⟨141, 28, 141, 38⟩ ⟨141, 28, 141, 44⟩) ⟨141, 20, 141, 44⟩) ⟨141, 12, 141, 44⟩) .nil)
def b15_1 : Ex := (.sidx (.glb 0 "ALPHABET" ⟨137, 55, 137, 63⟩) (.var 4 "sign" ⟨137, 70, 137, 74⟩) ⟨137, 55, 137, 69⟩ ⟨137, 55, 137, 75⟩)
def b15 : Stms := (.cons (.ifs (.isN (.var 0 "thing" ⟨134, 7, 134, 12⟩) 0 ⟨134, 16, 134, 20⟩ ⟨134, 7, 134, 20⟩) (.cons (.ret (.tup (.cons (.int 0 0 ⟨135, 16, 135, 17⟩) .nil) 0 ⟨135, 15, 135, 19⟩) ⟨135, 8, 135, 19⟩) .nil) .nil ⟨134, 4, 135, 19⟩) (.cons (.ifs (.isi (.var 0 "thing" ⟨136, 18, 136, 23⟩) .str ⟨136, 7, 136, 17⟩ ⟨136, 25, 136, 28⟩ ⟨136, 7, 136, 29⟩) (.cons (.ret (.bin .add (.bin .add (.tup (.cons (.int 2 0 ⟨137, 16, 137, 17⟩) .nil) 0 ⟨137, 15, 137, 19⟩) (.call 14 "_law_number" (.cons (.bi1 .len (.var 0 "thing" ⟨137, 38, 137, 43⟩) ⟨137, 34, 137, 37⟩ ⟨137, 34, 137, 44⟩) .nil) ⟨137, 22, 137, 33⟩ ⟨137, 22, 137, 45⟩) ⟨137, 15, 137, 45⟩) (.biL .tup (.lc b15_1 (.name ⟨4, "sign", ⟨137, 80, 137, 84⟩⟩) (.a (.var 0 "thing" ⟨137, 88, 137, 93⟩)) .none sc0 [(".0", 3), ("sign", 4)] ⟨137, 54, 137, 94⟩) ⟨137, 48, 137, 53⟩ ⟨137, 48, 137, 95⟩) ⟨137, 15, 137, 95⟩) ⟨137, 8, 137, 95⟩) .nil) .nil ⟨136, 4, 137, 95⟩) (.cons (.ifs (.isi (.var 0 "thing" ⟨138, 18, 138, 23⟩) .tup ⟨138, 7, 138, 17⟩ ⟨138, 25, 138, 30⟩ ⟨138, 7, 138, 31⟩) (.cons (.asg (.name ⟨1, "found", ⟨139, 8, 139, 13⟩⟩) (.bin .add (.tup (.cons (.int 3 0 ⟨139, 17, 139, 18⟩) .nil) 0 ⟨139, 16, 139, 20⟩) (.call 14 "_law_number" (.cons (.bi1 .len (.var 0 "thing" ⟨139, 39, 139, 44⟩) ⟨139, 35, 139, 38⟩ ⟨139, 35, 139, 45⟩) .nil) ⟨139, 23, 139, 34⟩ ⟨139, 23, 139, 46⟩) ⟨139, 16, 139, 46⟩) ⟨139, 8, 139, 46⟩) (.cons (.forr (.name ⟨2, "part", ⟨140, 12, 140, 16⟩⟩) (.a (.var 0 "thing" ⟨140, 20, 140, 25⟩)) b15_0 ⟨140, 8, 141, 44⟩) (.cons (.ret (.var 1 "found" ⟨142, 15, 142, 20⟩) ⟨142, 8, 142, 20⟩) .nil))) .nil ⟨138, 4, 142, 20⟩) (.cons (.ret (.bin .add (.tup (.cons (.int 1 0 ⟨143, 12, 143, 13⟩) .nil) 0 ⟨143, 11, 143, 15⟩) (.call 14 "_law_number" (.cons (.var 0 "thing" ⟨143, 30, 143, 35⟩) .nil) ⟨143, 18, 143, 29⟩ ⟨143, 18, 143, 36⟩) ⟨143, 11, 143, 36⟩) ⟨143, 4, 143, 36⟩) .nil))))
def N15 : List Str := [("thing" : Str), ("found" : Str), ("part" : Str), (".0" : Str), ("sign" : Str)]
def f15 : Fn := ⟨1, 5, true, b15⟩
def b16_0 : Stms := (.cons (.asg (.name ⟨17, "deep", ⟨184, 8, 184, 12⟩⟩) (.tup (.cons (.var 17 "deep" ⟨184, 16, 184, 20⟩) .nil) 0 ⟨184, 15, 184, 22⟩) ⟨184, 8, 184, 22⟩) .nil)
def b16_1 : Stms := (.cons (.ifs (.and (.cons (.not (.refd 0 "_law_refused" (.call 6 "take_thing" (.cons (.var 15 "bad" ⟨176, 47, 176, 50⟩) (.cons (.int 0 0 ⟨176, 52, 176, 53⟩) .nil)) ⟨176, 36, 176, 46⟩ ⟨176, 36, 176, 54⟩) sc11 ⟨176, 15, 176, 27⟩ ⟨176, 28, 176, 54⟩ ⟨176, 15, 176, 55⟩) ⟨176, 11, 176, 55⟩) (.cons (.cmp .ne (.var 15 "bad" ⟨176, 60, 176, 63⟩) (.tup (.cons (.int 128 0 ⟨176, 68, 176, 71⟩) (.cons (.int 0 0 ⟨176, 73, 176, 74⟩) .nil)) 0 ⟨176, 67, 176, 75⟩) ⟨176, 60, 176, 75⟩) (.cons (.cmp .ne (.var 15 "bad" ⟨176, 81, 176, 84⟩) (.tup (.cons (.int 128 0 ⟨176, 89, 176, 92⟩) .nil) 0 ⟨176, 88, 176, 94⟩) ⟨176, 81, 176, 94⟩) .nil))) ⟨176, 11, 176, 95⟩) (.cons (.ret (.bl false 0 ⟨177, 19, 177, 24⟩) ⟨177, 12, 177, 24⟩) .nil) .nil ⟨176, 8, 177, 24⟩) .nil)
def b16_2 : Ex := (.sub (.glb 0 "ALPHABET" ⟨172, 20, 172, 28⟩) (.call 12 "_law_take" (.cons (.var 1 "tape" ⟨172, 39, 172, 43⟩) (.cons (.bi1 .len (.glb 0 "ALPHABET" ⟨172, 49, 172, 57⟩) ⟨172, 45, 172, 48⟩ ⟨172, 45, 172, 58⟩) .nil)) ⟨172, 29, 172, 38⟩ ⟨172, 29, 172, 59⟩) ⟨172, 20, 172, 60⟩)
def b16_3 : Stms := (.cons (.ifs (.not (.refd 0 "_law_refused" (.call 10 "take_sealed" (.cons (.slice (.var 19 "row" ⟨163, 48, 163, 51⟩) .none (.some (.var 20 "size" ⟨163, 53, 163, 57⟩)) ⟨163, 52, 163, 57⟩ ⟨163, 48, 163, 58⟩) (.cons (.int 0 0 ⟨163, 60, 163, 61⟩) .nil)) ⟨163, 36, 163, 47⟩ ⟨163, 36, 163, 62⟩) sc13 ⟨163, 15, 163, 27⟩ ⟨163, 28, 163, 62⟩ ⟨163, 15, 163, 63⟩) ⟨163, 11, 163, 63⟩) (.cons (.ret (.bl false 0 ⟨164, 19, 164, 24⟩) ⟨164, 12, 164, 24⟩) .nil) .nil ⟨163, 8, 164, 24⟩) .nil)
def b16_4 : Stms := (.cons (.asg (.name ⟨5, "low", ⟨152, 8, 152, 11⟩⟩) (.bin .add (.var 5 "low" ⟨152, 14, 152, 17⟩) (.var 7 "a" ⟨152, 20, 152, 21⟩) ⟨152, 14, 152, 21⟩) ⟨152, 8, 152, 21⟩) (.cons (.asg (.name ⟨6, "high", ⟨153, 8, 153, 12⟩⟩) (.bin .add (.var 6 "high" ⟨153, 15, 153, 19⟩) (.var 5 "low" ⟨153, 22, 153, 25⟩) ⟨153, 15, 153, 25⟩) ⟨153, 8, 153, 25⟩) .nil))
def b16 : Stms := (.cons (.asg (.name ⟨1, "tape", ⟨145, 4, 145, 8⟩⟩) (.call 11 "_law_tape" (.cons (.var 0 "script" ⟨145, 21, 145, 27⟩) .nil) ⟨145, 11, 145, 20⟩ ⟨145, 11, 145, 28⟩) ⟨145, 4, 145, 28⟩) (.cons (.par ⟨2, "thing", ⟨146, 4, 146, 9⟩⟩ ⟨3, "other", ⟨146, 11, 146, 16⟩⟩ (.call 13 "_law_thing" (.cons (.var 1 "tape" ⟨146, 31, 146, 35⟩) (.cons (.int 3 0 ⟨146, 37, 146, 38⟩) .nil)) ⟨146, 20, 146, 30⟩ ⟨146, 20, 146, 39⟩) (.call 13 "_law_thing" (.cons (.var 1 "tape" ⟨146, 52, 146, 56⟩) (.cons (.int 2 0 ⟨146, 58, 146, 59⟩) .nil)) ⟨146, 41, 146, 51⟩ ⟨146, 41, 146, 60⟩) 0 0 ⟨146, 4, 146, 16⟩ ⟨146, 19, 146, 61⟩ ⟨146, 4, 146, 61⟩) (.cons (.asg (.name ⟨4, "body", ⟨147, 4, 147, 8⟩⟩) (.call 15 "_law_bytes" (.cons (.var 2 "thing" ⟨147, 22, 147, 27⟩) .nil) ⟨147, 11, 147, 21⟩ ⟨147, 11, 147, 28⟩) ⟨147, 4, 147, 28⟩) (.cons (.ifs (.or (.cons (.cmp .ne (.call 4 "put_thing" (.cons (.var 2 "thing" ⟨148, 17, 148, 22⟩) .nil) ⟨148, 7, 148, 16⟩ ⟨148, 7, 148, 23⟩) (.var 4 "body" ⟨148, 27, 148, 31⟩) ⟨148, 7, 148, 31⟩) (.cons (.cmp .ne (.call 6 "take_thing" (.cons (.var 4 "body" ⟨148, 46, 148, 50⟩) (.cons (.int 0 0 ⟨148, 52, 148, 53⟩) .nil)) ⟨148, 35, 148, 45⟩ ⟨148, 35, 148, 54⟩) (.tup (.cons (.var 2 "thing" ⟨148, 59, 148, 64⟩) (.cons (.bi1 .len (.var 4 "body" ⟨148, 70, 148, 74⟩) ⟨148, 66, 148, 69⟩ ⟨148, 66, 148, 75⟩) .nil)) 0 ⟨148, 58, 148, 76⟩) ⟨148, 35, 148, 76⟩) (.cons (.cmp .ne (.call 6 "take_thing" (.cons (.bin .add (.var 4 "body" ⟨148, 91, 148, 95⟩) (.var 4 "body" ⟨148, 98, 148, 102⟩) ⟨148, 91, 148, 102⟩) (.cons (.bi1 .len (.var 4 "body" ⟨148, 108, 148, 112⟩) ⟨148, 104, 148, 107⟩ ⟨148, 104, 148, 113⟩) .nil)) ⟨148, 80, 148, 90⟩ ⟨148, 80, 148, 114⟩) (.tup (.cons (.var 2 "thing" ⟨148, 119, 148, 124⟩) (.cons (.bin .mul (.int 2 0 ⟨148, 126, 148, 127⟩) (.bi1 .len (.var 4 "body" ⟨148, 134, 148, 138⟩) ⟨148, 130, 148, 133⟩ ⟨148, 130, 148, 139⟩) ⟨148, 126, 148, 139⟩) .nil)) 0 ⟨148, 118, 148, 140⟩) ⟨148, 80, 148, 140⟩) .nil))) ⟨148, 7, 148, 140⟩) (.cons (.ret (.bl false 0 ⟨149, 15, 149, 20⟩) ⟨149, 8, 149, 20⟩) .nil) .nil ⟨148, 4, 149, 20⟩) (.cons (.asg (.tup [⟨5, "low", ⟨150, 4, 150, 7⟩⟩, ⟨6, "high", ⟨150, 9, 150, 13⟩⟩] 0 ⟨150, 4, 150, 13⟩) (.tup (.cons (.int 1 0 ⟨150, 17, 150, 18⟩) (.cons (.int 0 0 ⟨150, 20, 150, 21⟩) .nil)) 0 ⟨150, 16, 150, 22⟩) ⟨150, 4, 150, 22⟩) (.cons (.forr (.name ⟨7, "a", ⟨151, 8, 151, 9⟩⟩) (.a (.var 4 "body" ⟨151, 13, 151, 17⟩)) b16_4 ⟨151, 4, 153, 25⟩) (.cons (.asg (.name ⟨8, "check", ⟨154, 4, 154, 9⟩⟩) (.bin .add (.bin .mul (.bin .mod (.bi1 .int (.var 6 "high" ⟨154, 16, 154, 20⟩) ⟨154, 12, 154, 15⟩ ⟨154, 12, 154, 21⟩) (.int 65521 0 ⟨154, 24, 154, 29⟩) ⟨154, 12, 154, 29⟩) (.int 65521 0 ⟨154, 32, 154, 37⟩) ⟨154, 12, 154, 37⟩) (.bin .mod (.bi1 .int (.var 5 "low" ⟨154, 44, 154, 47⟩) ⟨154, 40, 154, 43⟩ ⟨154, 40, 154, 48⟩) (.int 65521 0 ⟨154, 51, 154, 56⟩) ⟨154, 40, 154, 56⟩) ⟨154, 12, 154, 56⟩) ⟨154, 4, 154, 56⟩) (.cons (.asg (.name ⟨19, "row", ⟨155, 4, 155, 7⟩⟩) (.bin .add (.bin .add (.call 14 "_law_number" (.cons (.bi1 .len (.var 4 "body" ⟨155, 26, 155, 30⟩) ⟨155, 22, 155, 25⟩ ⟨155, 22, 155, 31⟩) .nil) ⟨155, 10, 155, 21⟩ ⟨155, 10, 155, 32⟩) (.call 14 "_law_number" (.cons (.var 8 "check" ⟨155, 47, 155, 52⟩) .nil) ⟨155, 35, 155, 46⟩ ⟨155, 35, 155, 53⟩) ⟨155, 10, 155, 53⟩) (.var 4 "body" ⟨155, 56, 155, 60⟩) ⟨155, 10, 155, 60⟩) ⟨155, 4, 155, 60⟩) (.cons (.ifs (.or (.cons (.cmp .ne (.call 8 "check_sum" (.cons (.var 4 "body" ⟨156, 17, 156, 21⟩) .nil) ⟨156, 7, 156, 16⟩ ⟨156, 7, 156, 22⟩) (.var 8 "check" ⟨156, 26, 156, 31⟩) ⟨156, 7, 156, 31⟩) (.cons (.cmp .ne (.call 9 "put_sealed" (.cons (.var 2 "thing" ⟨156, 46, 156, 51⟩) .nil) ⟨156, 35, 156, 45⟩ ⟨156, 35, 156, 52⟩) (.var 19 "row" ⟨156, 56, 156, 59⟩) ⟨156, 35, 156, 59⟩) (.cons (.cmp .ne (.call 10 "take_sealed" (.cons (.var 19 "row" ⟨156, 75, 156, 78⟩) (.cons (.int 0 0 ⟨156, 80, 156, 81⟩) .nil)) ⟨156, 63, 156, 74⟩ ⟨156, 63, 156, 82⟩) (.tup (.cons (.var 2 "thing" ⟨156, 87, 156, 92⟩) (.cons (.bi1 .len (.var 19 "row" ⟨156, 98, 156, 101⟩) ⟨156, 94, 156, 97⟩ ⟨156, 94, 156, 102⟩) .nil)) 0 ⟨156, 86, 156, 103⟩) ⟨156, 63, 156, 103⟩) (.cons (.cmp .ne (.call 8 "check_sum" (.cons (.tup .nil 0 ⟨156, 118, 156, 120⟩) .nil) ⟨156, 108, 156, 117⟩ ⟨156, 108, 156, 121⟩) (.int 1 0 ⟨156, 125, 156, 126⟩) ⟨156, 108, 156, 126⟩) .nil)))) ⟨156, 7, 156, 127⟩) (.cons (.ret (.bl false 0 ⟨157, 15, 157, 20⟩) ⟨157, 8, 157, 20⟩) .nil) .nil ⟨156, 4, 157, 20⟩) (.cons (.asg (.name ⟨9, "both", ⟨158, 4, 158, 8⟩⟩) (.bin .add (.var 19 "row" ⟨158, 11, 158, 14⟩) (.call 9 "put_sealed" (.cons (.var 3 "other" ⟨158, 28, 158, 33⟩) .nil) ⟨158, 17, 158, 27⟩ ⟨158, 17, 158, 34⟩) ⟨158, 11, 158, 34⟩) ⟨158, 4, 158, 34⟩) (.cons (.asg (.tup [⟨10, "first", ⟨159, 4, 159, 9⟩⟩, ⟨11, "at", ⟨159, 11, 159, 13⟩⟩] 0 ⟨159, 4, 159, 13⟩) (.call 10 "take_sealed" (.cons (.var 9 "both" ⟨159, 28, 159, 32⟩) (.cons (.int 0 0 ⟨159, 34, 159, 35⟩) .nil)) ⟨159, 16, 159, 27⟩ ⟨159, 16, 159, 36⟩) ⟨159, 4, 159, 36⟩) (.cons (.ifs (.or (.cons (.cmp .ne (.var 10 "first" ⟨160, 7, 160, 12⟩) (.var 2 "thing" ⟨160, 16, 160, 21⟩) ⟨160, 7, 160, 21⟩) (.cons (.cmp .ne (.call 10 "take_sealed" (.cons (.var 9 "both" ⟨160, 37, 160, 41⟩) (.cons (.var 11 "at" ⟨160, 43, 160, 45⟩) .nil)) ⟨160, 25, 160, 36⟩ ⟨160, 25, 160, 46⟩) (.tup (.cons (.var 3 "other" ⟨160, 51, 160, 56⟩) (.cons (.bi1 .len (.var 9 "both" ⟨160, 62, 160, 66⟩) ⟨160, 58, 160, 61⟩ ⟨160, 58, 160, 67⟩) .nil)) 0 ⟨160, 50, 160, 68⟩) ⟨160, 25, 160, 68⟩) .nil)) ⟨160, 7, 160, 68⟩) (.cons (.ret (.bl false 0 ⟨161, 15, 161, 20⟩) ⟨161, 8, 161, 20⟩) .nil) .nil ⟨160, 4, 161, 20⟩) (.cons (.forr (.name ⟨20, "size", ⟨162, 8, 162, 12⟩⟩) (.r1 (.bi1 .len (.var 19 "row" ⟨162, 26, 162, 29⟩) ⟨162, 22, 162, 25⟩ ⟨162, 22, 162, 30⟩) ⟨162, 16, 162, 21⟩ ⟨162, 16, 162, 31⟩) b16_3 ⟨162, 4, 164, 24⟩) (.cons (.asg (.name ⟨11, "at", ⟨165, 4, 165, 6⟩⟩) (.call 12 "_law_take" (.cons (.var 1 "tape" ⟨165, 19, 165, 23⟩) (.cons (.bi1 .len (.var 19 "row" ⟨165, 29, 165, 32⟩) ⟨165, 25, 165, 28⟩ ⟨165, 25, 165, 33⟩) .nil)) ⟨165, 9, 165, 18⟩ ⟨165, 9, 165, 34⟩) ⟨165, 4, 165, 34⟩) (.cons (.asg (.name ⟨16, "bent", ⟨166, 4, 166, 8⟩⟩) (.bin .add (.bin .add (.slice (.var 19 "row" ⟨166, 11, 166, 14⟩) .none (.some (.var 11 "at" ⟨166, 16, 166, 18⟩)) ⟨166, 15, 166, 18⟩ ⟨166, 11, 166, 19⟩) (.tup (.cons (.bin .mod (.bi1 .int (.bin .add (.bin .add (.sub (.var 19 "row" ⟨166, 27, 166, 30⟩) (.var 11 "at" ⟨166, 31, 166, 33⟩) ⟨166, 27, 166, 34⟩) (.int 1 0 ⟨166, 37, 166, 38⟩) ⟨166, 27, 166, 38⟩) (.call 12 "_law_take" (.cons (.var 1 "tape" ⟨166, 51, 166, 55⟩) (.cons (.int 255 0 ⟨166, 57, 166, 60⟩) .nil)) ⟨166, 41, 166, 50⟩ ⟨166, 41, 166, 61⟩) ⟨166, 27, 166, 61⟩) ⟨166, 23, 166, 26⟩ ⟨166, 23, 166, 62⟩) (.int 256 0 ⟨166, 65, 166, 68⟩) ⟨166, 23, 166, 68⟩) .nil) 0 ⟨166, 22, 166, 70⟩) ⟨166, 11, 166, 70⟩) (.slice (.var 19 "row" ⟨166, 73, 166, 76⟩) (.some (.bin .add (.var 11 "at" ⟨166, 77, 166, 79⟩) (.int 1 0 ⟨166, 82, 166, 83⟩) ⟨166, 77, 166, 83⟩)) .none ⟨166, 77, 166, 84⟩ ⟨166, 73, 166, 85⟩) ⟨166, 11, 166, 85⟩) ⟨166, 4, 166, 85⟩) (.cons (.ifs (.not (.refd 0 "_law_refused" (.call 10 "take_sealed" (.cons (.var 16 "bent" ⟨167, 44, 167, 48⟩) (.cons (.int 0 0 ⟨167, 50, 167, 51⟩) .nil)) ⟨167, 32, 167, 43⟩ ⟨167, 32, 167, 52⟩) sc12 ⟨167, 11, 167, 23⟩ ⟨167, 24, 167, 52⟩ ⟨167, 11, 167, 53⟩) ⟨167, 7, 167, 53⟩) (.cons (.ret (.bl false 0 ⟨168, 15, 168, 20⟩) ⟨168, 8, 168, 20⟩) .nil) .nil ⟨167, 4, 168, 20⟩) (.cons (.asg (.name ⟨12, "number", ⟨169, 4, 169, 10⟩⟩) (.subL (.disp (.cons (.call 12 "_law_take" (.cons (.var 1 "tape" ⟨169, 24, 169, 28⟩) (.cons (.int 300 0 ⟨169, 30, 169, 33⟩) .nil)) ⟨169, 14, 169, 23⟩ ⟨169, 14, 169, 34⟩) (.cons (.call 12 "_law_take" (.cons (.var 1 "tape" ⟨169, 46, 169, 50⟩) (.cons (.int 100000 0 ⟨169, 52, 169, 58⟩) .nil)) ⟨169, 36, 169, 45⟩ ⟨169, 36, 169, 59⟩) .nil)) ⟨169, 13, 169, 60⟩) (.call 12 "_law_take" (.cons (.var 1 "tape" ⟨169, 71, 169, 75⟩) (.cons (.int 2 0 ⟨169, 77, 169, 78⟩) .nil)) ⟨169, 61, 169, 70⟩ ⟨169, 61, 169, 79⟩) ⟨169, 13, 169, 80⟩) ⟨169, 4, 169, 80⟩) (.cons (.ifs (.or (.cons (.cmp .ne (.call 0 "put_number" (.cons (.var 12 "number" ⟨170, 18, 170, 24⟩) .nil) ⟨170, 7, 170, 17⟩ ⟨170, 7, 170, 25⟩) (.call 14 "_law_number" (.cons (.var 12 "number" ⟨170, 41, 170, 47⟩) .nil) ⟨170, 29, 170, 40⟩ ⟨170, 29, 170, 48⟩) ⟨170, 7, 170, 48⟩) (.cons (.cmp .ne (.call 1 "take_number" (.cons (.bin .add (.tup (.cons (.int 9 0 ⟨170, 65, 170, 66⟩) .nil) 0 ⟨170, 64, 170, 68⟩) (.call 0 "put_number" (.cons (.var 12 "number" ⟨170, 82, 170, 88⟩) .nil) ⟨170, 71, 170, 81⟩ ⟨170, 71, 170, 89⟩) ⟨170, 64, 170, 89⟩) (.cons (.int 1 0 ⟨170, 91, 170, 92⟩) .nil)) ⟨170, 52, 170, 63⟩ ⟨170, 52, 170, 93⟩) (.tup (.cons (.var 12 "number" ⟨170, 98, 170, 104⟩) (.cons (.bin .add (.int 1 0 ⟨170, 106, 170, 107⟩) (.bi1 .len (.call 0 "put_number" (.cons (.var 12 "number" ⟨170, 125, 170, 131⟩) .nil) ⟨170, 114, 170, 124⟩ ⟨170, 114, 170, 132⟩) ⟨170, 110, 170, 113⟩ ⟨170, 110, 170, 133⟩) ⟨170, 106, 170, 133⟩) .nil)) 0 ⟨170, 97, 170, 134⟩) ⟨170, 52, 170, 134⟩) .nil)) ⟨170, 7, 170, 134⟩) (.cons (.ret (.bl false 0 ⟨171, 15, 171, 20⟩) ⟨171, 8, 171, 20⟩) .nil) .nil ⟨170, 4, 171, 20⟩) (.cons (.asg (.name ⟨14, "text", ⟨172, 4, 172, 8⟩⟩) (.join (.str "" 0 ⟨172, 11, 172, 13⟩) (.lc b16_2 (.name ⟨13, "k", ⟨172, 65, 172, 66⟩⟩) (.r1 (.call 12 "_law_take" (.cons (.var 1 "tape" ⟨172, 86, 172, 90⟩) (.cons (.int 6 0 ⟨172, 92, 172, 93⟩) .nil)) ⟨172, 76, 172, 85⟩ ⟨172, 76, 172, 94⟩) ⟨172, 70, 172, 75⟩ ⟨172, 70, 172, 95⟩) .none sc5 [(".0", 21), ("k", 13)] ⟨172, 19, 172, 96⟩) ⟨172, 11, 172, 18⟩ ⟨172, 11, 172, 97⟩) ⟨172, 4, 172, 97⟩) (.cons (.ifs (.or (.cons (.cmp .ne (.call 3 "take_text" (.cons (.call 2 "put_text" (.cons (.var 14 "text" ⟨173, 26, 173, 30⟩) .nil) ⟨173, 17, 173, 25⟩ ⟨173, 17, 173, 31⟩) (.cons (.int 0 0 ⟨173, 33, 173, 34⟩) .nil)) ⟨173, 7, 173, 16⟩ ⟨173, 7, 173, 35⟩) (.tup (.cons (.var 14 "text" ⟨173, 40, 173, 44⟩) (.cons (.bi1 .len (.call 2 "put_text" (.cons (.var 14 "text" ⟨173, 59, 173, 63⟩) .nil) ⟨173, 50, 173, 58⟩ ⟨173, 50, 173, 64⟩) ⟨173, 46, 173, 49⟩ ⟨173, 46, 173, 65⟩) .nil)) 0 ⟨173, 39, 173, 66⟩) ⟨173, 7, 173, 66⟩) (.cons (.cmp .ne (.lenSet (.glb 0 "ALPHABET" ⟨173, 78, 173, 86⟩) ⟨173, 70, 173, 73⟩ ⟨173, 74, 173, 77⟩ ⟨173, 74, 173, 87⟩ ⟨173, 70, 173, 88⟩) (.bi1 .len (.glb 0 "ALPHABET" ⟨173, 96, 173, 104⟩) ⟨173, 92, 173, 95⟩ ⟨173, 92, 173, 105⟩) ⟨173, 70, 173, 105⟩) (.cons (.neL (.listS (.glb 0 "ALPHABET" ⟨173, 114, 173, 122⟩) ⟨173, 109, 173, 113⟩ ⟨173, 109, 173, 123⟩) (.sortS (.glb 0 "ALPHABET" ⟨173, 134, 173, 142⟩) ⟨173, 127, 173, 133⟩ ⟨173, 127, 173, 143⟩) ⟨173, 109, 173, 143⟩) .nil))) ⟨173, 7, 173, 143⟩) (.cons (.ret (.bl false 0 ⟨174, 15, 174, 20⟩) ⟨174, 8, 174, 20⟩) .nil) .nil ⟨173, 4, 174, 20⟩) (.cons (.forr (.name ⟨15, "bad", ⟨175, 8, 175, 11⟩⟩) (.a (.tup (.cons (.tup .nil 0 ⟨175, 16, 175, 18⟩) (.cons (.tup (.cons (.int 128 0 ⟨175, 21, 175, 24⟩) .nil) 0 ⟨175, 20, 175, 26⟩) (.cons (.tup (.cons (.int 128 0 ⟨175, 29, 175, 32⟩) (.cons (.int 0 0 ⟨175, 34, 175, 35⟩) .nil)) 0 ⟨175, 28, 175, 36⟩) (.cons (.tup (.cons (.int 4 0 ⟨175, 39, 175, 40⟩) .nil) 0 ⟨175, 38, 175, 42⟩) (.cons (.tup (.cons (.int 2 0 ⟨175, 45, 175, 46⟩) (.cons (.int 3 0 ⟨175, 48, 175, 49⟩) (.cons (.int 1 0 ⟨175, 51, 175, 52⟩) .nil))) 0 ⟨175, 44, 175, 53⟩) (.cons (.tup (.cons (.int 2 0 ⟨175, 56, 175, 57⟩) (.cons (.int 1 0 ⟨175, 59, 175, 60⟩) (.cons (.int 200 0 ⟨175, 62, 175, 65⟩) .nil))) 0 ⟨175, 55, 175, 66⟩) (.cons (.tup (.cons (.int 3 0 ⟨175, 69, 175, 70⟩) (.cons (.int 1 0 ⟨175, 72, 175, 73⟩) .nil)) 0 ⟨175, 68, 175, 74⟩) .nil))))))) 0 ⟨175, 15, 175, 75⟩)) b16_1 ⟨175, 4, 177, 24⟩) (.cons (.ifs (.not (.refd 0 "_law_refused" (.call 1 "take_number" (.cons (.tup (.cons (.int 128 0 ⟨178, 45, 178, 48⟩) (.cons (.int 0 0 ⟨178, 50, 178, 51⟩) .nil)) 0 ⟨178, 44, 178, 52⟩) (.cons (.int 0 0 ⟨178, 54, 178, 55⟩) .nil)) ⟨178, 32, 178, 43⟩ ⟨178, 32, 178, 56⟩) sc10 ⟨178, 11, 178, 23⟩ ⟨178, 24, 178, 56⟩ ⟨178, 11, 178, 57⟩) ⟨178, 7, 178, 57⟩) (.cons (.ret (.bl false 0 ⟨179, 15, 179, 20⟩) ⟨179, 8, 179, 20⟩) .nil) .nil ⟨178, 4, 179, 20⟩) (.cons (.ifs (.not (.refd 0 "_law_refused" (.call 0 "put_number" (.cons (.bin .sub (.int 0 0 ⟨180, 43, 180, 44⟩) (.int 1 0 ⟨180, 47, 180, 48⟩) ⟨180, 43, 180, 48⟩) .nil) ⟨180, 32, 180, 42⟩ ⟨180, 32, 180, 49⟩) sc9 ⟨180, 11, 180, 23⟩ ⟨180, 24, 180, 49⟩ ⟨180, 11, 180, 50⟩) ⟨180, 7, 180, 50⟩) (.cons (.ret (.bl false 0 ⟨181, 15, 181, 20⟩) ⟨181, 8, 181, 20⟩) .nil) .nil ⟨180, 4, 181, 20⟩) (.cons (.asg (.name ⟨17, "deep", ⟨182, 4, 182, 8⟩⟩) (.non 0 ⟨182, 11, 182, 15⟩) ⟨182, 4, 182, 15⟩) (.cons (.forr (.name ⟨13, "k", ⟨183, 8, 183, 9⟩⟩) (.r1 (.int 39 0 ⟨183, 19, 183, 21⟩) ⟨183, 13, 183, 18⟩ ⟨183, 13, 183, 22⟩) b16_0 ⟨183, 4, 184, 22⟩) (.cons (.ifs (.or (.cons (.cmp .ne (.call 4 "put_thing" (.cons (.var 17 "deep" ⟨185, 17, 185, 21⟩) .nil) ⟨185, 7, 185, 16⟩ ⟨185, 7, 185, 22⟩) (.bin .add (.bin .mul (.tup (.cons (.int 3 0 ⟨185, 27, 185, 28⟩) (.cons (.int 1 0 ⟨185, 30, 185, 31⟩) .nil)) 0 ⟨185, 26, 185, 32⟩) (.int 39 0 ⟨185, 35, 185, 37⟩) ⟨185, 26, 185, 37⟩) (.tup (.cons (.int 0 0 ⟨185, 41, 185, 42⟩) .nil) 0 ⟨185, 40, 185, 44⟩) ⟨185, 26, 185, 44⟩) ⟨185, 7, 185, 44⟩) (.cons (.cmp .ne (.call 6 "take_thing" (.cons (.bin .add (.bin .mul (.tup (.cons (.int 3 0 ⟨185, 60, 185, 61⟩) (.cons (.int 1 0 ⟨185, 63, 185, 64⟩) .nil)) 0 ⟨185, 59, 185, 65⟩) (.int 39 0 ⟨185, 68, 185, 70⟩) ⟨185, 59, 185, 70⟩) (.tup (.cons (.int 0 0 ⟨185, 74, 185, 75⟩) .nil) 0 ⟨185, 73, 185, 77⟩) ⟨185, 59, 185, 77⟩) (.cons (.int 0 0 ⟨185, 79, 185, 80⟩) .nil)) ⟨185, 48, 185, 58⟩ ⟨185, 48, 185, 81⟩) (.tup (.cons (.var 17 "deep" ⟨185, 86, 185, 90⟩) (.cons (.int 79 0 ⟨185, 92, 185, 94⟩) .nil)) 0 ⟨185, 85, 185, 95⟩) ⟨185, 48, 185, 95⟩) .nil)) ⟨185, 7, 185, 95⟩) (.cons (.ret (.bl false 0 ⟨186, 15, 186, 20⟩) ⟨186, 8, 186, 20⟩) .nil) .nil ⟨185, 4, 186, 20⟩) (.cons (.asg (.name ⟨18, "far", ⟨187, 4, 187, 7⟩⟩) (.bin .add (.bin .mul (.tup (.cons (.int 3 0 ⟨187, 11, 187, 12⟩) (.cons (.int 1 0 ⟨187, 14, 187, 15⟩) .nil)) 0 ⟨187, 10, 187, 16⟩) (.bin .add (.int 40 0 ⟨187, 20, 187, 22⟩) (.call 12 "_law_take" (.cons (.var 1 "tape" ⟨187, 35, 187, 39⟩) (.cons (.int 3000 0 ⟨187, 41, 187, 45⟩) .nil)) ⟨187, 25, 187, 34⟩ ⟨187, 25, 187, 46⟩) ⟨187, 20, 187, 46⟩) ⟨187, 10, 187, 47⟩) (.tup (.cons (.int 0 0 ⟨187, 51, 187, 52⟩) .nil) 0 ⟨187, 50, 187, 54⟩) ⟨187, 10, 187, 54⟩) ⟨187, 4, 187, 54⟩) (.cons (.ifs (.not (.refd 0 "_law_refused" (.call 4 "put_thing" (.cons (.tup (.cons (.var 17 "deep" ⟨188, 43, 188, 47⟩) .nil) 0 ⟨188, 42, 188, 49⟩) .nil) ⟨188, 32, 188, 41⟩ ⟨188, 32, 188, 50⟩) sc8 ⟨188, 11, 188, 23⟩ ⟨188, 24, 188, 50⟩ ⟨188, 11, 188, 51⟩) ⟨188, 7, 188, 51⟩) (.cons (.ret (.bl false 0 ⟨189, 15, 189, 20⟩) ⟨189, 8, 189, 20⟩) .nil) .nil ⟨188, 4, 189, 20⟩) (.cons (.ifs (.not (.refd 0 "_law_refused" (.call 6 "take_thing" (.cons (.var 18 "far" ⟨190, 43, 190, 46⟩) (.cons (.int 0 0 ⟨190, 48, 190, 49⟩) .nil)) ⟨190, 32, 190, 42⟩ ⟨190, 32, 190, 50⟩) sc7 ⟨190, 11, 190, 23⟩ ⟨190, 24, 190, 50⟩ ⟨190, 11, 190, 51⟩) ⟨190, 7, 190, 51⟩) (.cons (.ret (.bl false 0 ⟨191, 15, 191, 20⟩) ⟨191, 8, 191, 20⟩) .nil) .nil ⟨190, 4, 191, 20⟩) (.cons (.ret (.refd 0 "_law_refused" (.call 2 "put_text" (.cons (.str "\n" 0 ⟨192, 41, 192, 45⟩) .nil) ⟨192, 32, 192, 40⟩ ⟨192, 32, 192, 46⟩) sc6 ⟨192, 11, 192, 23⟩ ⟨192, 24, 192, 46⟩ ⟨192, 11, 192, 47⟩) ⟨192, 4, 192, 47⟩) .nil))))))))))))))))))))))))))))))
def N16 : List Str := [("script" : Str), ("tape" : Str), ("thing" : Str), ("other" : Str), ("body" : Str), ("low" : Str), ("high" : Str), ("a" : Str), ("check" : Str), ("both" : Str), ("first" : Str), ("at" : Str), ("number" : Str), ("k" : Str), ("text" : Str), ("bad" : Str), ("bent" : Str), ("deep" : Str), ("far" : Str), ("row" : Str), ("size" : Str), (".0" : Str)]
def f16 : Fn := ⟨1, 22, false, b16⟩
def fns : List Fn := [f0, f1, f2, f3, f4, f5, f6, f7, f8, f9, f10, f11, f12, f13, f14, f15, f16]
def fnames : List (Str × Nat) := [("put_number", 1), ("take_number", 2), ("put_text", 1), ("take_text", 2), ("put_thing", 1), ("bytes_of", 2), ("take_thing", 2), ("thing_at", 3), ("check_sum", 1), ("put_sealed", 1), ("take_sealed", 2), ("_law_tape", 1), ("_law_take", 2), ("_law_thing", 2), ("_law_number", 1), ("_law_bytes", 1), ("law", 1)]
def glv : List E := [.str " !#$&'()*+,-./0123456789:;<=>?@ABCDEFGHIJKLMNOPQRSTUVWXYZ[]^_abcdefghijklmnopqrstuvwxyz{|}~", .int 40]
def gln : List Str := [("ALPHABET" : Str), ("MOST_DEEP" : Str)]
def rns : List Str := [("_law_refused" : Str)]
def xns : List Str := [("InvalidBytes" : Str)]
def rfs : List (Nat × Nat) := [(0, 0)]
def G : Pg := ⟨fun i => fns[i]?, fun i => glv[i]?, fun g c => rfs.contains (g, c), 100000, fun i => gln[i]?, fun i => fnames[i]?, fun i => rns[i]?, fun i => xns[i]?⟩
def dD (i : Nat) (x : Str) : He.DefD := ⟨(x, none), x, x, defArgs (top i), defBody (top i), defScope (top i), [], []⟩
def dfs : List He.DefD := [dD 6 "put_number", dD 7 "take_number", dD 8 "put_text", dD 9 "take_text", dD 10 "put_thing", dD 11 "bytes_of", dD 12 "take_thing", dD 13 "thing_at", dD 14 "check_sum", dD 15 "put_sealed", dD 16 "take_sealed", dD 18 "_law_tape", dD 19 "_law_take", dD 21 "_law_thing", dD 22 "_law_number", dD 23 "_law_bytes", dD 24 "law", dD 20 "_law_refused"]
def fas : List He.Fa := [.glo "put_number", .glo "take_number", .glo "put_text", .glo "take_text", .glo "put_thing", .glo "bytes_of", .glo "take_thing", .glo "thing_at", .glo "check_sum", .glo "put_sealed", .glo "take_sealed", .glo "_law_tape", .glo "_law_take", .glo "_law_thing", .glo "_law_number", .glo "_law_bytes", .glo "law", .glo "_law_refused", .glo "InvalidBytes", .exc "InvalidBytes", .exm "InvalidBytes" "InvalidBytes" true, .str "ALPHABET" " !#$&'()*+,-./0123456789:;<=>?@ABCDEFGHIJKLMNOPQRSTUVWXYZ[]^_abcdefghijklmnopqrstuvwxyz{|}~", .int "MOST_DEEP" 40, .free "len", .free "abs", .free "int", .free "tuple", .free "all", .free "isinstance", .free "str", .free "range", .free "set", .free "list", .free "sorted"]
def exB (K : PySem.W.Frag) : Bool := K.all fun p => !(p.2.cls == .type "list")
def tfs : List He.Defn := [("law", none)]
def nms0 : List Str := [("__name__" : Str), ("LostError" : Str), ("InvalidBytes" : Str), ("ALPHABET" : Str), ("MOST_DEEP" : Str), ("put_number" : Str), ("take_number" : Str), ("put_text" : Str), ("take_text" : Str), ("put_thing" : Str), ("bytes_of" : Str), ("take_thing" : Str), ("thing_at" : Str), ("check_sum" : Str), ("put_sealed" : Str), ("take_sealed" : Str), ("_law_tape" : Str), ("_law_take" : Str), ("_law_refused" : Str), ("_law_thing" : Str), ("_law_number" : Str), ("_law_bytes" : Str)]
def nms : List Str := nms0
abbrev R : PySem.W.OpenRow := PySem.W.OpenLaw.row PySem.Challenge.rw_nothinglost_k01_bytes_and_their_checks
abbrev hk : PySem.W.Hook := He.hookX 4 fas dfs [] tfs exB
def ob (s : PySem.W.SharedT) : He.AlX := He.obsX 4 fas dfs [] tfs exB (HandSHeadRun.getT s)
theorem ob_eq (s : PySem.W.SharedT) : ob s = hk.obs s.abs := He.obsX_eq (HandSHeadRun.getT_eq s)
theorem run (w : World) : HandSHeadRun.RunEq R (PySem.W.view R.prog [24]) hk ob 6000 nms w := by
  intro os
  kernel_rfl
end K01
end
section
set_option Elab.async false
set_option linter.all false
set_option maxRecDepth 100000
set_option maxHeartbeats 0
namespace K01
open PySem PySem.Spec PyProof.Rows L2 Lt
theorem e0 : b0.py = defBody (top 6) := by kernel_rfl
theorem k0 : okSs (G.sg N0) false (defScope (top 6)) b0 = true := by kernel_rfl
theorem s0 : FnScope N0 [("number" : Str)] (defScope (top 6)) := ⟨rfl, rfl, rfl, by decide +kernel, rfl, by decide +kernel, by decide +kernel⟩
theorem e1 : b1.py = defBody (top 7) := by kernel_rfl
theorem k1 : okSs (G.sg N1) false (defScope (top 7)) b1 = true := by kernel_rfl
theorem s1 : FnScope N1 [("row" : Str), ("at" : Str)] (defScope (top 7)) := ⟨rfl, rfl, rfl, by decide +kernel, rfl, by decide +kernel, by decide +kernel⟩
theorem e2 : b2.py = defBody (top 8) := by kernel_rfl
theorem k2 : okSs (G.sg N2) false (defScope (top 8)) b2 = true := by kernel_rfl
theorem s2 : FnScope N2 [("text" : Str)] (defScope (top 8)) := ⟨rfl, rfl, rfl, by decide +kernel, rfl, by decide +kernel, by decide +kernel⟩
theorem e3 : b3.py = defBody (top 9) := by kernel_rfl
theorem k3 : okSs (G.sg N3) false (defScope (top 9)) b3 = true := by kernel_rfl
theorem s3 : FnScope N3 [("row" : Str), ("at" : Str)] (defScope (top 9)) := ⟨rfl, rfl, rfl, by decide +kernel, rfl, by decide +kernel, by decide +kernel⟩
theorem e4 : b4.py = defBody (top 10) := by kernel_rfl
theorem k4 : okSs (G.sg N4) false (defScope (top 10)) b4 = true := by kernel_rfl
theorem s4 : FnScope N4 [("thing" : Str)] (defScope (top 10)) := ⟨rfl, rfl, rfl, by decide +kernel, rfl, by decide +kernel, by decide +kernel⟩
theorem e5 : b5.py = defBody (top 11) := by kernel_rfl
theorem k5 : okSs (G.sg N5) false (defScope (top 11)) b5 = true := by kernel_rfl
theorem s5 : FnScope N5 [("thing" : Str), ("left" : Str)] (defScope (top 11)) := ⟨rfl, rfl, rfl, by decide +kernel, rfl, by decide +kernel, by decide +kernel⟩
theorem e6 : b6.py = defBody (top 12) := by kernel_rfl
theorem k6 : okSs (G.sg N6) false (defScope (top 12)) b6 = true := by kernel_rfl
theorem s6 : FnScope N6 [("row" : Str), ("at" : Str)] (defScope (top 12)) := ⟨rfl, rfl, rfl, by decide +kernel, rfl, by decide +kernel, by decide +kernel⟩
theorem e7 : b7.py = defBody (top 13) := by kernel_rfl
theorem k7 : okSs (G.sg N7) false (defScope (top 13)) b7 = true := by kernel_rfl
theorem s7 : FnScope N7 [("row" : Str), ("at" : Str), ("left" : Str)] (defScope (top 13)) := ⟨rfl, rfl, rfl, by decide +kernel, rfl, by decide +kernel, by decide +kernel⟩
theorem e8 : b8.py = defBody (top 14) := by kernel_rfl
theorem k8 : okSs (G.sg N8) false (defScope (top 14)) b8 = true := by kernel_rfl
theorem s8 : FnScope N8 [("row" : Str)] (defScope (top 14)) := ⟨rfl, rfl, rfl, by decide +kernel, rfl, by decide +kernel, by decide +kernel⟩
theorem e9 : b9.py = defBody (top 15) := by kernel_rfl
theorem k9 : okSs (G.sg N9) false (defScope (top 15)) b9 = true := by kernel_rfl
theorem s9 : FnScope N9 [("thing" : Str)] (defScope (top 15)) := ⟨rfl, rfl, rfl, by decide +kernel, rfl, by decide +kernel, by decide +kernel⟩
theorem e10 : b10.py = defBody (top 16) := by kernel_rfl
theorem k10 : okSs (G.sg N10) false (defScope (top 16)) b10 = true := by kernel_rfl
theorem s10 : FnScope N10 [("row" : Str), ("at" : Str)] (defScope (top 16)) := ⟨rfl, rfl, rfl, by decide +kernel, rfl, by decide +kernel, by decide +kernel⟩
theorem e11 : b11.py = defBody (top 18) := by kernel_rfl
theorem k11 : okSs (G.sg N11) false (defScope (top 18)) b11 = true := by kernel_rfl
theorem s11 : FnScope N11 [("script" : Str)] (defScope (top 18)) := ⟨rfl, rfl, rfl, by decide +kernel, rfl, by decide +kernel, by decide +kernel⟩
theorem e12 : b12.py = defBody (top 19) := by kernel_rfl
theorem k12 : okSs (G.sg N12) false (defScope (top 19)) b12 = true := by kernel_rfl
theorem s12 : FnScope N12 [("tape" : Str), ("many" : Str)] (defScope (top 19)) := ⟨rfl, rfl, rfl, by decide +kernel, rfl, by decide +kernel, by decide +kernel⟩
theorem e13 : b13.py = defBody (top 21) := by kernel_rfl
theorem k13 : okSs (G.sg N13) false (defScope (top 21)) b13 = true := by kernel_rfl
theorem s13 : FnScope N13 [("tape" : Str), ("deep" : Str)] (defScope (top 21)) := ⟨rfl, rfl, rfl, by decide +kernel, rfl, by decide +kernel, by decide +kernel⟩
theorem e14 : b14.py = defBody (top 22) := by kernel_rfl
theorem k14 : okSs (G.sg N14) false (defScope (top 22)) b14 = true := by kernel_rfl
theorem s14 : FnScope N14 [("number" : Str)] (defScope (top 22)) := ⟨rfl, rfl, rfl, by decide +kernel, rfl, by decide +kernel, by decide +kernel⟩
theorem e15 : b15.py = defBody (top 23) := by kernel_rfl
theorem k15 : okSs (G.sg N15) false (defScope (top 23)) b15 = true := by kernel_rfl
theorem s15 : FnScope N15 [("thing" : Str)] (defScope (top 23)) := ⟨rfl, rfl, rfl, by decide +kernel, rfl, by decide +kernel, by decide +kernel⟩
theorem e16 : b16.py = defBody (top 24) := by kernel_rfl
theorem k16 : okSs (G.sg N16) true (defScope (top 24)) b16 = true := by kernel_rfl
theorem s16 : FnScope N16 [("script" : Str)] (defScope (top 24)) := ⟨rfl, rfl, rfl, by decide +kernel, rfl, by decide +kernel, by decide +kernel⟩
end K01
end
section
set_option Elab.async false
set_option linter.all false
set_option maxRecDepth 100000
set_option maxHeartbeats 0
namespace K01
open PySem PySem.Spec PyProof.Rows L2 Lt
def qOf (K : PySem.W.Frag) : Wq := ⟨(tfs.map (He.cT K)).map fun p => (p.2, lamQ "law" (defScope (top 24))), fun c => match xns[c]? with
  | some x => .ref (He.ga K x)
  | none => .none⟩
section
variable {w : World} {h : Heap} {K : PySem.W.Frag} {mg : Str → Option Value} {base : Heap}
theorem fh0 (KX : K.In h) (GX : h.Ns mainGlobals mg) (c : He.SaysX fas dfs [] tfs exB w h K) (TB : ∀ p ∈ tfs.map (He.cT K), LamX.TabB base mg p.1 p.2) : FnHyp K mg base (qOf K) G 0 "put_number" 1 := by
  obtain ⟨fd, F⟩ := c.t.d.def_ 0 (d := dD 6 "put_number") rfl
  refine ⟨_, fd, defArgs (top 6), defScope (top 6), N0, [("number" : Str)], f0, false, He.glo_ok KX GX (c.t.d.fact 0 (f := .glo "put_number") rfl), ?_, FunD.bindsN F (fun _ _ _ _ _ _ us hl => match us, hl with | [_], _ => rfl), by decide, s0, rfl, rfl, rfl, rfl, k0, fun z => nomatch z⟩
  show FunD K _ _ _ b0.py _ _ _ _ _
  rw [e0]
  exact F
theorem fh1 (KX : K.In h) (GX : h.Ns mainGlobals mg) (c : He.SaysX fas dfs [] tfs exB w h K) (TB : ∀ p ∈ tfs.map (He.cT K), LamX.TabB base mg p.1 p.2) : FnHyp K mg base (qOf K) G 1 "take_number" 2 := by
  obtain ⟨fd, F⟩ := c.t.d.def_ 1 (d := dD 7 "take_number") rfl
  refine ⟨_, fd, defArgs (top 7), defScope (top 7), N1, [("row" : Str), ("at" : Str)], f1, false, He.glo_ok KX GX (c.t.d.fact 1 (f := .glo "take_number") rfl), ?_, FunD.bindsN F (fun _ _ _ _ _ _ us hl => match us, hl with | [_, _], _ => rfl), by decide, s1, rfl, rfl, rfl, rfl, k1, fun z => nomatch z⟩
  show FunD K _ _ _ b1.py _ _ _ _ _
  rw [e1]
  exact F
theorem fh2 (KX : K.In h) (GX : h.Ns mainGlobals mg) (c : He.SaysX fas dfs [] tfs exB w h K) (TB : ∀ p ∈ tfs.map (He.cT K), LamX.TabB base mg p.1 p.2) : FnHyp K mg base (qOf K) G 2 "put_text" 1 := by
  obtain ⟨fd, F⟩ := c.t.d.def_ 2 (d := dD 8 "put_text") rfl
  refine ⟨_, fd, defArgs (top 8), defScope (top 8), N2, [("text" : Str)], f2, false, He.glo_ok KX GX (c.t.d.fact 2 (f := .glo "put_text") rfl), ?_, FunD.bindsN F (fun _ _ _ _ _ _ us hl => match us, hl with | [_], _ => rfl), by decide, s2, rfl, rfl, rfl, rfl, k2, fun z => nomatch z⟩
  show FunD K _ _ _ b2.py _ _ _ _ _
  rw [e2]
  exact F
theorem fh3 (KX : K.In h) (GX : h.Ns mainGlobals mg) (c : He.SaysX fas dfs [] tfs exB w h K) (TB : ∀ p ∈ tfs.map (He.cT K), LamX.TabB base mg p.1 p.2) : FnHyp K mg base (qOf K) G 3 "take_text" 2 := by
  obtain ⟨fd, F⟩ := c.t.d.def_ 3 (d := dD 9 "take_text") rfl
  refine ⟨_, fd, defArgs (top 9), defScope (top 9), N3, [("row" : Str), ("at" : Str)], f3, false, He.glo_ok KX GX (c.t.d.fact 3 (f := .glo "take_text") rfl), ?_, FunD.bindsN F (fun _ _ _ _ _ _ us hl => match us, hl with | [_, _], _ => rfl), by decide, s3, rfl, rfl, rfl, rfl, k3, fun z => nomatch z⟩
  show FunD K _ _ _ b3.py _ _ _ _ _
  rw [e3]
  exact F
theorem fh4 (KX : K.In h) (GX : h.Ns mainGlobals mg) (c : He.SaysX fas dfs [] tfs exB w h K) (TB : ∀ p ∈ tfs.map (He.cT K), LamX.TabB base mg p.1 p.2) : FnHyp K mg base (qOf K) G 4 "put_thing" 1 := by
  obtain ⟨fd, F⟩ := c.t.d.def_ 4 (d := dD 10 "put_thing") rfl
  refine ⟨_, fd, defArgs (top 10), defScope (top 10), N4, [("thing" : Str)], f4, false, He.glo_ok KX GX (c.t.d.fact 4 (f := .glo "put_thing") rfl), ?_, FunD.bindsN F (fun _ _ _ _ _ _ us hl => match us, hl with | [_], _ => rfl), by decide, s4, rfl, rfl, rfl, rfl, k4, fun z => nomatch z⟩
  show FunD K _ _ _ b4.py _ _ _ _ _
  rw [e4]
  exact F
theorem fh5 (KX : K.In h) (GX : h.Ns mainGlobals mg) (c : He.SaysX fas dfs [] tfs exB w h K) (TB : ∀ p ∈ tfs.map (He.cT K), LamX.TabB base mg p.1 p.2) : FnHyp K mg base (qOf K) G 5 "bytes_of" 2 := by
  obtain ⟨fd, F⟩ := c.t.d.def_ 5 (d := dD 11 "bytes_of") rfl
  refine ⟨_, fd, defArgs (top 11), defScope (top 11), N5, [("thing" : Str), ("left" : Str)], f5, false, He.glo_ok KX GX (c.t.d.fact 5 (f := .glo "bytes_of") rfl), ?_, FunD.bindsN F (fun _ _ _ _ _ _ us hl => match us, hl with | [_, _], _ => rfl), by decide, s5, rfl, rfl, rfl, rfl, k5, fun z => nomatch z⟩
  show FunD K _ _ _ b5.py _ _ _ _ _
  rw [e5]
  exact F
theorem fh6 (KX : K.In h) (GX : h.Ns mainGlobals mg) (c : He.SaysX fas dfs [] tfs exB w h K) (TB : ∀ p ∈ tfs.map (He.cT K), LamX.TabB base mg p.1 p.2) : FnHyp K mg base (qOf K) G 6 "take_thing" 2 := by
  obtain ⟨fd, F⟩ := c.t.d.def_ 6 (d := dD 12 "take_thing") rfl
  refine ⟨_, fd, defArgs (top 12), defScope (top 12), N6, [("row" : Str), ("at" : Str)], f6, false, He.glo_ok KX GX (c.t.d.fact 6 (f := .glo "take_thing") rfl), ?_, FunD.bindsN F (fun _ _ _ _ _ _ us hl => match us, hl with | [_, _], _ => rfl), by decide, s6, rfl, rfl, rfl, rfl, k6, fun z => nomatch z⟩
  show FunD K _ _ _ b6.py _ _ _ _ _
  rw [e6]
  exact F
theorem fh7 (KX : K.In h) (GX : h.Ns mainGlobals mg) (c : He.SaysX fas dfs [] tfs exB w h K) (TB : ∀ p ∈ tfs.map (He.cT K), LamX.TabB base mg p.1 p.2) : FnHyp K mg base (qOf K) G 7 "thing_at" 3 := by
  obtain ⟨fd, F⟩ := c.t.d.def_ 7 (d := dD 13 "thing_at") rfl
  refine ⟨_, fd, defArgs (top 13), defScope (top 13), N7, [("row" : Str), ("at" : Str), ("left" : Str)], f7, false, He.glo_ok KX GX (c.t.d.fact 7 (f := .glo "thing_at") rfl), ?_, FunD.bindsN F (fun _ _ _ _ _ _ us hl => match us, hl with | [_, _, _], _ => rfl), by decide, s7, rfl, rfl, rfl, rfl, k7, fun z => nomatch z⟩
  show FunD K _ _ _ b7.py _ _ _ _ _
  rw [e7]
  exact F
theorem fh8 (KX : K.In h) (GX : h.Ns mainGlobals mg) (c : He.SaysX fas dfs [] tfs exB w h K) (TB : ∀ p ∈ tfs.map (He.cT K), LamX.TabB base mg p.1 p.2) : FnHyp K mg base (qOf K) G 8 "check_sum" 1 := by
  obtain ⟨fd, F⟩ := c.t.d.def_ 8 (d := dD 14 "check_sum") rfl
  refine ⟨_, fd, defArgs (top 14), defScope (top 14), N8, [("row" : Str)], f8, false, He.glo_ok KX GX (c.t.d.fact 8 (f := .glo "check_sum") rfl), ?_, FunD.bindsN F (fun _ _ _ _ _ _ us hl => match us, hl with | [_], _ => rfl), by decide, s8, rfl, rfl, rfl, rfl, k8, fun z => nomatch z⟩
  show FunD K _ _ _ b8.py _ _ _ _ _
  rw [e8]
  exact F
theorem fh9 (KX : K.In h) (GX : h.Ns mainGlobals mg) (c : He.SaysX fas dfs [] tfs exB w h K) (TB : ∀ p ∈ tfs.map (He.cT K), LamX.TabB base mg p.1 p.2) : FnHyp K mg base (qOf K) G 9 "put_sealed" 1 := by
  obtain ⟨fd, F⟩ := c.t.d.def_ 9 (d := dD 15 "put_sealed") rfl
  refine ⟨_, fd, defArgs (top 15), defScope (top 15), N9, [("thing" : Str)], f9, false, He.glo_ok KX GX (c.t.d.fact 9 (f := .glo "put_sealed") rfl), ?_, FunD.bindsN F (fun _ _ _ _ _ _ us hl => match us, hl with | [_], _ => rfl), by decide, s9, rfl, rfl, rfl, rfl, k9, fun z => nomatch z⟩
  show FunD K _ _ _ b9.py _ _ _ _ _
  rw [e9]
  exact F
theorem fh10 (KX : K.In h) (GX : h.Ns mainGlobals mg) (c : He.SaysX fas dfs [] tfs exB w h K) (TB : ∀ p ∈ tfs.map (He.cT K), LamX.TabB base mg p.1 p.2) : FnHyp K mg base (qOf K) G 10 "take_sealed" 2 := by
  obtain ⟨fd, F⟩ := c.t.d.def_ 10 (d := dD 16 "take_sealed") rfl
  refine ⟨_, fd, defArgs (top 16), defScope (top 16), N10, [("row" : Str), ("at" : Str)], f10, false, He.glo_ok KX GX (c.t.d.fact 10 (f := .glo "take_sealed") rfl), ?_, FunD.bindsN F (fun _ _ _ _ _ _ us hl => match us, hl with | [_, _], _ => rfl), by decide, s10, rfl, rfl, rfl, rfl, k10, fun z => nomatch z⟩
  show FunD K _ _ _ b10.py _ _ _ _ _
  rw [e10]
  exact F
theorem fh11 (KX : K.In h) (GX : h.Ns mainGlobals mg) (c : He.SaysX fas dfs [] tfs exB w h K) (TB : ∀ p ∈ tfs.map (He.cT K), LamX.TabB base mg p.1 p.2) : FnHyp K mg base (qOf K) G 11 "_law_tape" 1 := by
  obtain ⟨fd, F⟩ := c.t.d.def_ 11 (d := dD 18 "_law_tape") rfl
  refine ⟨_, fd, defArgs (top 18), defScope (top 18), N11, [("script" : Str)], f11, false, He.glo_ok KX GX (c.t.d.fact 11 (f := .glo "_law_tape") rfl), ?_, FunD.bindsN F (fun _ _ _ _ _ _ us hl => match us, hl with | [_], _ => rfl), by decide, s11, rfl, rfl, rfl, rfl, k11, fun z => nomatch z⟩
  show FunD K _ _ _ b11.py _ _ _ _ _
  rw [e11]
  exact F
theorem fh12 (KX : K.In h) (GX : h.Ns mainGlobals mg) (c : He.SaysX fas dfs [] tfs exB w h K) (TB : ∀ p ∈ tfs.map (He.cT K), LamX.TabB base mg p.1 p.2) : FnHyp K mg base (qOf K) G 12 "_law_take" 2 := by
  obtain ⟨fd, F⟩ := c.t.d.def_ 12 (d := dD 19 "_law_take") rfl
  refine ⟨_, fd, defArgs (top 19), defScope (top 19), N12, [("tape" : Str), ("many" : Str)], f12, false, He.glo_ok KX GX (c.t.d.fact 12 (f := .glo "_law_take") rfl), ?_, FunD.bindsN F (fun _ _ _ _ _ _ us hl => match us, hl with | [_, _], _ => rfl), by decide, s12, rfl, rfl, rfl, rfl, k12, fun z => nomatch z⟩
  show FunD K _ _ _ b12.py _ _ _ _ _
  rw [e12]
  exact F
theorem fh13 (KX : K.In h) (GX : h.Ns mainGlobals mg) (c : He.SaysX fas dfs [] tfs exB w h K) (TB : ∀ p ∈ tfs.map (He.cT K), LamX.TabB base mg p.1 p.2) : FnHyp K mg base (qOf K) G 13 "_law_thing" 2 := by
  obtain ⟨fd, F⟩ := c.t.d.def_ 13 (d := dD 21 "_law_thing") rfl
  refine ⟨_, fd, defArgs (top 21), defScope (top 21), N13, [("tape" : Str), ("deep" : Str)], f13, false, He.glo_ok KX GX (c.t.d.fact 13 (f := .glo "_law_thing") rfl), ?_, FunD.bindsN F (fun _ _ _ _ _ _ us hl => match us, hl with | [_, _], _ => rfl), by decide, s13, rfl, rfl, rfl, rfl, k13, fun z => nomatch z⟩
  show FunD K _ _ _ b13.py _ _ _ _ _
  rw [e13]
  exact F
theorem fh14 (KX : K.In h) (GX : h.Ns mainGlobals mg) (c : He.SaysX fas dfs [] tfs exB w h K) (TB : ∀ p ∈ tfs.map (He.cT K), LamX.TabB base mg p.1 p.2) : FnHyp K mg base (qOf K) G 14 "_law_number" 1 := by
  obtain ⟨fd, F⟩ := c.t.d.def_ 14 (d := dD 22 "_law_number") rfl
  refine ⟨_, fd, defArgs (top 22), defScope (top 22), N14, [("number" : Str)], f14, false, He.glo_ok KX GX (c.t.d.fact 14 (f := .glo "_law_number") rfl), ?_, FunD.bindsN F (fun _ _ _ _ _ _ us hl => match us, hl with | [_], _ => rfl), by decide, s14, rfl, rfl, rfl, rfl, k14, fun z => nomatch z⟩
  show FunD K _ _ _ b14.py _ _ _ _ _
  rw [e14]
  exact F
theorem fh15 (KX : K.In h) (GX : h.Ns mainGlobals mg) (c : He.SaysX fas dfs [] tfs exB w h K) (TB : ∀ p ∈ tfs.map (He.cT K), LamX.TabB base mg p.1 p.2) : FnHyp K mg base (qOf K) G 15 "_law_bytes" 1 := by
  obtain ⟨fd, F⟩ := c.t.d.def_ 15 (d := dD 23 "_law_bytes") rfl
  refine ⟨_, fd, defArgs (top 23), defScope (top 23), N15, [("thing" : Str)], f15, false, He.glo_ok KX GX (c.t.d.fact 15 (f := .glo "_law_bytes") rfl), ?_, FunD.bindsN F (fun _ _ _ _ _ _ us hl => match us, hl with | [_], _ => rfl), by decide, s15, rfl, rfl, rfl, rfl, k15, fun z => nomatch z⟩
  show FunD K _ _ _ b15.py _ _ _ _ _
  rw [e15]
  exact F
theorem lam16 (KX : K.In h) (GX : h.Ns mainGlobals mg) (c : He.SaysX fas dfs [] tfs exB w h K) (TB : ∀ p ∈ tfs.map (He.cT K), LamX.TabB base mg p.1 p.2) {fd : FuncData} (F : FunD K "law" "law" (defArgs (top 24)) (defBody (top 24)) (defScope (top 24)) [] [] (He.fAd K ("law", none)) fd) : ∃ c Pt, fd.code = .ref c ∧ LamX.TabB base mg c Pt ∧ (Pt, lamQ "law" (defScope (top 24))) ∈ (qOf K).T ∧ ∀ p ∈ (qOf K).T, p.1 = Pt → p.2 = lamQ "law" (defScope (top 24)) := by
  obtain ⟨oc, od, dV, kV, doc, pm, an, cdv, ct, osl, rfl, lk, hcd, _, _⟩ := F.ex
  obtain ⟨cc, rfl⟩ := He.codeIn_ref hcd
  have e : He.codeOf K ("law", none) = cc := He.codeOf_eq lk rfl
  have m : He.cT K ("law", none) ∈ tfs.map (He.cT K) := List.mem_map_of_mem List.mem_cons_self
  refine ⟨cc, (He.cT K ("law", none)).2, rfl, ?_, List.mem_map_of_mem (f := fun p => (p.2, lamQ "law" (defScope (top 24)))) m, fun p hp _ => ?_⟩
  · have z := TB _ m
    rw [show (He.cT K ("law", none)).1 = cc from e] at z
    exact z
  · obtain ⟨p0, _, rfl⟩ := List.mem_map.mp hp
    rfl
theorem fh16 (KX : K.In h) (GX : h.Ns mainGlobals mg) (c : He.SaysX fas dfs [] tfs exB w h K) (TB : ∀ p ∈ tfs.map (He.cT K), LamX.TabB base mg p.1 p.2) : FnHyp K mg base (qOf K) G 16 "law" 1 := by
  obtain ⟨fd, F⟩ := c.t.d.def_ 16 (d := dD 24 "law") rfl
  refine ⟨_, fd, defArgs (top 24), defScope (top 24), N16, [("script" : Str)], f16, true, He.glo_ok KX GX (c.t.d.fact 16 (f := .glo "law") rfl), ?_, FunD.bindsN F (fun _ _ _ _ _ _ us hl => match us, hl with | [_], _ => rfl), by decide, s16, rfl, rfl, rfl, rfl, k16, fun _ => lam16 KX GX c TB F⟩
  show FunD K _ _ _ b16.py _ _ _ _ _
  rw [e16]
  exact F
theorem re0 : defBody (top 20) = [.Try [.Expr (.Call (.Name "call" ⟨114, 8, 114, 12⟩) [] [] ⟨114, 8, 114, 14⟩) ⟨114, 8, 114, 14⟩] [.ExceptHandler (some (.Name "InvalidBytes" ⟨115, 11, 115, 23⟩)) none [.Return (some (.Constant (.bool true) 0 ⟨116, 15, 116, 19⟩)) ⟨116, 8, 116, 19⟩] ⟨115, 4, 116, 19⟩] [] [] ⟨113, 4, 116, 19⟩, .Return (some (.Constant (.bool false) 0 ⟨117, 11, 117, 16⟩)) ⟨117, 4, 117, 16⟩] := by kernel_rfl
theorem rh0 (KX : K.In h) (GX : h.Ns mainGlobals mg) (c : He.SaysX fas dfs [] tfs exB w h K) (TB : ∀ p ∈ tfs.map (He.cT K), LamX.TabB base mg p.1 p.2) : RefF K mg (qOf K) G.rf 0 "_law_refused" := by
  obtain ⟨fd, F⟩ := c.t.d.def_ 17 (d := dD 20 "_law_refused") rfl
  have F2 : FunD K "_law_refused" "_law_refused" (defArgs (top 20)) (defBody (top 20)) (defScope (top 20)) [] [] (He.fAd K ("_law_refused", none)) fd := F
  have hb := FunD.bindsN (ps := [("call" : Str)]) F2 (fun _ _ _ _ _ _ us hl => match us, hl with | [_], _ => rfl)
  rw [re0] at F2
  refine ⟨"call", "InvalidBytes", _, _, _, He.ga K "InvalidBytes", fd, [("call" : Str)], _, _, _, _, _, _, _, _, _, _, _, _, F2, hb, He.glo_ok KX GX (c.t.d.fact 17 (f := .glo "_law_refused") rfl), ⟨rfl, rfl, rfl, by decide +kernel, rfl, by decide +kernel, by decide +kernel⟩, rfl, .inl (by decide +kernel), by decide +kernel, He.glo_ok KX GX (c.t.d.fact 18 (f := .glo "InvalidBytes") rfl), by decide, fun f => rfl, fun cc hc => ?_, by decide, by decide, by decide⟩
  match cc, hc with
  | 0, _ => exact He.exm_ok (c.t.d.fact 20 (f := .exm "InvalidBytes" "InvalidBytes" true) rfl)
  | n + 1, hc =>
    have : rfs.contains (0, n + 1) = false := by simp [rfs]
    exact absurd (show rfs.contains (0, n + 1) = true from hc) (by rw [this]; decide)
theorem hyp (KX : K.In h) (GX : h.Ns mainGlobals mg) (c : He.SaysX fas dfs [] tfs exB w h K) (TB : ∀ p ∈ tfs.map (He.cT K), LamX.TabB base mg p.1 p.2) : PgHyp K mg base (qOf K) G where
  bn := List.forall_mem_cons.mpr ⟨He.free_ok KX GX (c.t.d.fact 23 (f := .free "len") rfl), List.forall_mem_cons.mpr ⟨He.free_ok KX GX (c.t.d.fact 24 (f := .free "abs") rfl), List.forall_mem_cons.mpr ⟨He.free_ok KX GX (c.t.d.fact 25 (f := .free "int") rfl), List.forall_mem_cons.mpr ⟨He.free_ok KX GX (c.t.d.fact 26 (f := .free "tuple") rfl), List.forall_mem_cons.mpr ⟨He.free_ok KX GX (c.t.d.fact 27 (f := .free "all") rfl), List.forall_mem_cons.mpr ⟨He.free_ok KX GX (c.t.d.fact 28 (f := .free "isinstance") rfl), List.forall_mem_cons.mpr ⟨He.free_ok KX GX (c.t.d.fact 29 (f := .free "str") rfl), List.forall_mem_cons.mpr ⟨He.free_ok KX GX (c.t.d.fact 30 (f := .free "range") rfl), List.forall_mem_cons.mpr ⟨He.free_ok KX GX (c.t.d.fact 31 (f := .free "set") rfl), List.forall_mem_cons.mpr ⟨He.free_ok KX GX (c.t.d.fact 32 (f := .free "list") rfl), List.forall_mem_cons.mpr ⟨He.free_ok KX GX (c.t.d.fact 33 (f := .free "sorted") rfl), fun _ h => absurd h List.not_mem_nil⟩⟩⟩⟩⟩⟩⟩⟩⟩⟩⟩
  gv := fun j v x h1 h2 => by
    match j, h1, h2 with
    | 0, h1, h2 =>
      cases h1; cases h2
      obtain ⟨t, e⟩ := He.str_ok KX GX (c.t.d.fact 21 (f := .str "ALPHABET" " !#$&'()*+,-./0123456789:;<=>?@ABCDEFGHIJKLMNOPQRSTUVWXYZ[]^_abcdefghijklmnopqrstuvwxyz{|}~") rfl)
      exact ⟨_, .str _, e, ⟨t, rfl⟩, fun _ _ => .str _⟩
    | 1, h1, h2 =>
      cases h1; cases h2
      obtain ⟨t, e⟩ := He.int_ok KX GX (c.t.d.fact 22 (f := .int "MOST_DEEP" 40) rfl)
      exact ⟨_, .int _, e, ⟨t, rfl⟩, fun _ _ => .int _⟩
    | n + 2, h1, h2 => cases h1
  xv := fun j x h1 => by
    match j, h1 with
    | 0, h1 =>
      cases h1
      obtain ⟨e1, e2, e3, e4⟩ := He.exc_ok (c.t.d.fact 19 (f := .exc "InvalidBytes") rfl)
      exact ⟨He.ga K "InvalidBytes", rfl, He.glo_ok KX GX (c.t.d.fact 18 (f := .glo "InvalidBytes") rfl), e1, e2, e3, e4, by decide⟩
    | n + 1, h1 => cases h1
  rv := fun g x h1 => by
    match g, h1 with
    | 0, h1 => cases h1; exact rh0 KX GX c TB
    | n + 1, h1 => cases h1
  fv := fun f x np h1 => by
    match f, h1 with
    | 0, h1 => cases h1; exact fh0 KX GX c TB
    | 1, h1 => cases h1; exact fh1 KX GX c TB
    | 2, h1 => cases h1; exact fh2 KX GX c TB
    | 3, h1 => cases h1; exact fh3 KX GX c TB
    | 4, h1 => cases h1; exact fh4 KX GX c TB
    | 5, h1 => cases h1; exact fh5 KX GX c TB
    | 6, h1 => cases h1; exact fh6 KX GX c TB
    | 7, h1 => cases h1; exact fh7 KX GX c TB
    | 8, h1 => cases h1; exact fh8 KX GX c TB
    | 9, h1 => cases h1; exact fh9 KX GX c TB
    | 10, h1 => cases h1; exact fh10 KX GX c TB
    | 11, h1 => cases h1; exact fh11 KX GX c TB
    | 12, h1 => cases h1; exact fh12 KX GX c TB
    | 13, h1 => cases h1; exact fh13 KX GX c TB
    | 14, h1 => cases h1; exact fh14 KX GX c TB
    | 15, h1 => cases h1; exact fh15 KX GX c TB
    | 16, h1 => cases h1; exact fh16 KX GX c TB
    | n + 17, h1 => cases h1
theorem noList (c : He.SaysX fas dfs [] tfs exB w h K) : ∀ a o, K.lookup a = some o → o.cls ≠ .type "list" := fun a o e z => by
  have h1 := List.all_eq_true.mp (show K.all (fun p => !(p.2.cls == .type "list")) = true from c.more) (a, o) (He.lookup_mem e)
  rw [z] at h1
  exact absurd h1 (by decide)
end
theorem law_says (hlaw : ∀ ns : List Int, ns.length ≤ 63 → (∀ z ∈ ns, Builtin.Int.intBits z ≤ 1048576) → ∃ G', callF G.T G.gl G.rf G.wf (60 + 1) 16 [.ref 0] [.rol (ns.map E.int)] = .ok (.bl true) G')
    (w : World) (mg : Str → Option Value) (fa : Addr) (h : Heap) (Y : hk.says w h) (GX : h.Ns mainGlobals mg) (hmg : mg "law" = some (.ref fa)) : ∃ K : PySem.W.Frag, K.In h ∧ LamX.LawAtS PySem.Challenge.rw_nothinglost_k01_bytes_and_their_checks w K (CX PySem.Challenge.pw_nothinglost_k01_bytes_and_their_checks w) (3 * (60 + 1)) 63 "script" mg fa h := by
  obtain ⟨K, KX, c⟩ := Y
  obtain ⟨fd, F⟩ := c.t.d.def_ 16 (d := dD 24 "law") rfl
  have ea : fa = He.ga K "law" := by
    have z := hmg.symm.trans (He.glo_ok KX GX (c.t.d.fact 16 (f := .glo "law") rfl))
    injection z with z
    injection z
  subst ea
  refine ⟨K, KX, law_at (q := qOf K) (G := G) (params := defArgs (top 24)) (cs := tfs.map (He.cT K)) (fn := f16) (N := N16) (lm := true) (lx := "law") (fun base KB GB TB => hyp (base := base) KX GX c TB) (fun p hp => ?_) (fun p hp => ?_) (fun p hp => ?_) (fun t ht => ?_) (fun s u => ?_) (noList c) ?_ s16 rfl rfl rfl k16 (fun base TB _ => lam16 KX GX c TB F) hlaw⟩
  · obtain ⟨p0, hp0, rfl⟩ := List.mem_map.mp hp
    exact c.empty p0 hp0
  · obtain ⟨p0, hp0, rfl⟩ := List.mem_map.mp hp
    exact c.out p0 hp0
  · obtain ⟨p0, hp0, rfl⟩ := List.mem_map.mp hp
    exact PySem.W.codeHd_of_K KX (c.hd p0 hp0)
  · obtain ⟨p0, hp0, rfl⟩ := List.mem_map.mp ht
    exact ⟨p0, hp0, rfl⟩
  · exact FunD.bindsA (ps := [("script" : Str)]) F (fun _ _ _ _ _ _ us hl => match us, hl with | [_], _ => rfl) s [u] rfl
  · show FunD K _ _ _ b16.py _ _ _ _ _
    rw [e16]
    exact F
end K01
open PySem PySem.W PySem.Calls PyProof.Rows
theorem K01.holds_of (hlaw : ∀ ns : List Int, ns.length ≤ 63 → (∀ z ∈ ns, Builtin.Int.intBits z ≤ 1048576) → ∃ G', Lt.callF K01.G.T K01.G.gl K01.G.rf K01.G.wf (60 + 1) 16 [.ref 0] [.rol (ns.map Lt.E.int)] = .ok (.bl true) G') : PySem.Challenge.rw_nothinglost_k01_bytes_and_their_checks.Holds := by
  w_on; o_law
  refine HandSHeadRun.head_any (r := OpenLaw.row PySem.Challenge.rw_nothinglost_k01_bytes_and_their_checks) (q := view (OpenLaw.row PySem.Challenge.rw_nothinglost_k01_bytes_and_their_checks).prog [24]) (H := K01.hk) (ob := K01.ob) (M := 6000) (loose := K01.nms) (d := HandSHeadRun.topDef (OpenLaw.row PySem.Challenge.rw_nothinglost_k01_bytes_and_their_checks).prog 24) (kwd := []) K01.ob_eq
    (by kernel_rfl) (fun s => by kernel_rfl) K01.run (by kernel_rfl) (by kernel_rfl) (by kernel_rfl) (by rfl) (by first | assumption | decide +kernel) (by decide +kernel) ⟨rfl, rfl, rfl, rfl, rfl, by decide +kernel⟩ ?hw ?hc
  case hw => w_witness2
  case hc =>
    refine LamX.walk_ofTsE (l := PySem.Challenge.rw_nothinglost_k01_bytes_and_their_checks) (n := 63) (k := 3 * (60 + 1)) (x := "script") (CX := fun w => L2.CX PySem.Challenge.pw_nothinglost_k01_bytes_and_their_checks w) rfl (by decide) (by kernel_rfl) ⟨rfl, by decide, by decide⟩ ?F (fun w H s e s' ⟨_, _, _, _, _, _, _, _, _, _, _, _, z⟩ => z)
    intro w mg fa h Y G hmg0
    have hmg : mg ("law" : PySem.Str) = some (.ref fa) := by
      have e : (HandSHeadRun.topDef (OpenLaw.row PySem.Challenge.rw_nothinglost_k01_bytes_and_their_checks).prog 24).name = ("law" : PySem.Str) := by kernel_rfl
      rw [← e]
      exact hmg0
    exact K01.law_says hlaw w mg fa h Y G hmg
end
section
set_option Elab.async false
set_option linter.all false
set_option maxRecDepth 100000
set_option maxHeartbeats 1000000
/-! k01, the plain law: what each def computes. -/
namespace K01
open PySem Lt
abbrev cl (k f : Nat) (es : List E) (H : Hq) : Lt.R E := callF G.T G.gl G.rf G.wf k f es H
abbrev Pn (k : Nat) : Par := G.par k
theorem cl_succ {k f : Nat} {es : List E} {H : Hq} {fn : Fn} (h : G.T f = some fn) (hl : es.length = fn.np) : cl (k + 1) f es H = endR fn.pure H (fn.body.ev (Pn k) (es.map some ++ List.replicate (fn.ns - fn.np) none) H) := by
  show (match G.T f with | some fn => _ | none => _) = _
  rw [h]
  show (if es.length = fn.np then _ else _) = _
  rw [if_pos hl]
  rfl
def nats (l : List Nat) : List E := l.map fun (a : Nat) => E.int (a : Int)
theorem dats_nats : ∀ l : List Nat, E.dats (nats l) = some (l.map fun (a : Nat) => PyData.int (a : Int))
  | [] => rfl
  | a :: l => by
    show (match (E.int (a : Int)).dat, E.dats (nats l) with | some d, some ds => some (d :: ds) | _, _ => none) = _
    rw [dats_nats l]
    rfl
theorem dat_nats (l : List Nat) : (E.tup (nats l)).dat.isSome = true := by
  unfold E.dat
  rw [dats_nats]
  rfl
theorem deps_nats : ∀ l : List Nat, E.deps (nats l) = 0
  | [] => rfl
  | a :: l => by
    show max 0 (E.deps (nats l)) = 0
    rw [deps_nats l]
    rfl
theorem nats_len (l : List Nat) : (nats l).length = l.length := by simp [nats]
theorem nats_app (l r : List Nat) : nats (l ++ r) = nats l ++ nats r := by simp [nats]
theorem nats_cons (a : Nat) (r : List Nat) : nats (a :: r) = E.int (a : Int) :: nats r := rfl
/-- a pure def's end -/
theorem endR_rt {H J : Hq} {v : E} (h : v.dat.isSome = true) : endR true H (.rt v (H ++ J)) = .ok v H := retP_app h
theorem endR_rt0 {H : Hq} {v : E} (h : v.dat.isSome = true) : endR true H (.rt v H) = .ok v H := retP_same h
/-- the digits to the base 128, the last one apart -/
def numI (n : Nat) : List Nat × Nat := if h : n < 128 then ([], n) else ((n % 128 + 128) :: (numI (n / 128)).1, (numI (n / 128)).2)
termination_by n
decreasing_by all_goals omega
def num (n : Nat) : List Nat := (numI n).1 ++ [(numI n).2]
theorem numI_lt {n : Nat} (h : n < 128) : numI n = ([], n) := by unfold numI; rw [dif_pos h]
theorem numI_ge {n : Nat} (h : ¬ n < 128) : numI n = ((n % 128 + 128) :: (numI (n / 128)).1, (numI (n / 128)).2) := by
  conv => lhs; unfold numI
  rw [dif_neg h]
theorem numI_len : ∀ (k n : Nat), n < 128 ^ (k + 1) → (numI n).1.length ≤ k
  | 0, n, h => by rw [numI_lt (by simpa using h)]; simp
  | k + 1, n, h => by
    by_cases hn : n < 128
    · rw [numI_lt hn]; simp
    · rw [numI_ge hn, List.length_cons]
      have := numI_len k (n / 128) (by
        rw [Nat.div_lt_iff_lt_mul (by omega)]
        rw [Nat.pow_succ] at h
        exact h)
      omega
/-! ### put_number -/
theorem put_turn {k n : Nat} {H : Hq} {acc : List E} (ha : acc.length < 1000) : b0_1.ev (Pn k) [some (.int (n : Int)), some (.ref H.length)] (H ++ [.lst acc]) = .nx [some (.int ((n / 128 : Nat) : Int)), some (.ref H.length)] (H ++ [.lst (acc ++ [.int ((n % 128 + 128 : Nat) : Int)])]) := by
  have hl : acc.length < sizeLine := by rw [sizeLine_eq]; omega
  have e1 : ((n : Int)) % 128 + 128 = ((n % 128 + 128 : Nat) : Int) := by omega
  have e2 : (n : Int) / 128 = ((n / 128 : Nat) : Int) := by omega
  rw [← e1, ← e2]
  simp [b0_1, Stms.ev, Stm.ev, Ex.ev, o_mod, getL_new, hl, q_v_aug, a_fdiv]
theorem put_loop {k : Nat} {H : Hq} : ∀ (fuel n : Nat) (acc : List E), (numI n).1.length < fuel → acc.length + (numI n).1.length < 1000 →
    whilS (b0_0.evT (Pn k)) (b0_1.ev (Pn k)) fuel [some (.int (n : Int)), some (.ref H.length)] (H ++ [.lst acc]) = .nx [some (.int ((numI n).2 : Int)), some (.ref H.length)] (H ++ [.lst (acc ++ nats (numI n).1)])
  | 0, n, acc, h, _ => by omega
  | fuel + 1, n, acc, h, ha => by
    unfold whilS
    have hc : b0_0.evT (Pn k) [some (.int (n : Int)), some (.ref H.length)] (H ++ [.lst acc]) = .ok (decide ((n : Int) > 127)) (H ++ [.lst acc]) := by
      simp [b0_0, Ex.evT, Ex.ev]
    rw [hc]
    simp only [R.st_ok]
    by_cases hn : n < 128
    · rw [if_neg (by simp; omega), numI_lt hn]
      simp [nats]
    · rw [if_pos (by simp; omega), numI_ge hn] at *
      rw [List.length_cons] at h ha
      rw [put_turn (by omega)]
      simp only []
      rw [put_loop fuel (n / 128) _ (by omega) (by simp; omega)]
      rw [List.append_assoc]
      rfl
theorem put_number_ok {k n : Nat} {H : Hq} (hn : n < 128 ^ 100) : cl (k + 1) 0 [.int (n : Int)] H = .ok (.tup (nats (num n))) H := by
  have hl : (numI n).1.length ≤ 99 := numI_len 99 n hn
  rw [cl_succ (fn := f0) rfl rfl]
  show endR true H (b0.ev (Pn k) [some (.int (n : Int)), none] H) = _
  have e : b0.ev (Pn k) [some (.int (n : Int)), none] H = .rt (.tup (nats (num n))) (H ++ [.lst (nats (numI n).1)]) := by
    have hlp := put_loop (k := k) (H := H) 100000 n [] (by omega) (by simp; omega)
    have hs : sizeLine = 16777216 := sizeLine_eq
    have h0 : ¬ ((n : Int) < 0) := by omega
    have hsz : (numI n).1.length ≤ 16777215 := by omega
    simp only [List.nil_append] at hlp
    have hwf : (Pn k).wf = 100000 := rfl
    simp [b0, Stms.ev, Stm.ev, Ex.evT, Ex.ev, Exs.ev, Lx.ev, Tg.set, h0, hwf, hlp, getL_new, getM_new, hs, nats_len, num, biLE, nats_app, hsz]
    rfl
  rw [e]
  exact endR_rt (dat_nats _)
end K01
end
section
set_option Elab.async false
set_option linter.all false
set_option maxRecDepth 100000
set_option maxHeartbeats 1000000
/-! k01: take_number. -/
namespace K01
open PySem Lt
theorem le_line {n : Nat} (h : n ≤ 1000000) : n ≤ sizeLine := by
  rw [sizeLine_eq]; omega
theorem mulOk_l {i j : Int} (h : -(2 ^ 64) < i ∧ i < 2 ^ 64) : mulOk i j = true := by
  unfold mulOk
  rw [decide_eq_true h]; rfl
theorem mulOk_r {i j : Int} (h : -(2 ^ 64) < j ∧ j < 2 ^ 64) : mulOk i j = true := by
  unfold mulOk
  rw [decide_eq_true h]; simp
theorem atI_nat {α : Type} {xs : List α} {j : Nat} {x : α} (h : xs[j]? = some x) : L2.atI xs (j : Int) = some x := by
  have hj := (List.getElem?_eq_some_iff.mp h).1
  unfold L2.atI L2.ixN
  rw [if_pos (by omega), if_pos (by omega)]
  simpa using h
theorem nats_get {l : List Nat} {j a : Nat} (h : l[j]? = some a) : (nats l)[j]? = some (E.int (a : Int)) := by
  simp [nats, h]
theorem sub_nats {l : List Nat} {j a : Nat} {H : Hq} (h : l[j]? = some a) : subE H (.tup (nats l)) (.int (j : Int)) = some (.int (a : Int)) := atI_nat (nats_get h)
def ups (j m : Nat) : List E := (List.range' j m).map fun (k : Nat) => E.int (k : Int)
theorem rng_ups (j m : Nat) : rng (j : Int) m = ups j m := by
  unfold rng ups
  rw [List.range_eq_range', List.range'_eq_map_range, List.range'_eq_map_range, List.map_map, List.map_map]
  refine List.map_congr_left fun k _ => ?_
  simp
theorem ups_succ (j m : Nat) : ups j (m + 1) = E.int (j : Int) :: ups (j + 1) m := by
  unfold ups
  rw [List.range'_succ]
  rfl
theorem in62_nat {n : Nat} (h : n ≤ 1000000) : in62 (n : Int) = true := by
  unfold in62
  rw [decide_eq_true_eq]
  omega
/-- a number's bytes taken off: the value, what is left -/
def dgo (first : Bool) (found step : Nat) : List Nat → Option (Nat × List Nat)
  | [] => none
  | a :: r => if a < 128 then (if a = 0 ∧ first = false then none else some (found + a % 128 * step, r)) else dgo false (found + a % 128 * step) (step * 128) r
def dnum (l : List Nat) : Option (Nat × List Nat) := dgo true 0 1 l
theorem dgo_len : ∀ {l : List Nat} {b : Bool} {f s v : Nat} {r : List Nat}, dgo b f s l = some (v, r) → r.length < l.length
  | [], _, _, _, _, _, h => by cases h
  | a :: l, b, f, s, v, r, h => by
    unfold dgo at h
    split at h
    · split at h
      · cases h
      · cases h; simp
    · have := dgo_len h
      simp; omega
/-- what a turn does -/
theorem num_turn {k j at0 a found step : Nat} {row : List Nat} {H : Hq} (ha : row[j]? = some a) (hj : at0 ≤ j) :
    b1_0.ev (Pn k) [some (.tup (nats row)), some (.int (at0 : Int)), some (.int (found : Int)), some (.int (step : Int)), some (.int (j : Int))] H =
      if a < 128 then (if a = 0 ∧ decide (j = at0) = false then .ex 0 [some (.tup (nats row)), some (.int (at0 : Int)), some (.int ((found + a % 128 * step : Nat) : Int)), some (.int ((step * 128 : Nat) : Int)), some (.int (j : Int))] H
        else .rt (.tup [.int ((found + a % 128 * step : Nat) : Int), .int ((j + 1 : Nat) : Int)]) H)
      else .nx [some (.tup (nats row)), some (.int (at0 : Int)), some (.int ((found + a % 128 * step : Nat) : Int)), some (.int ((step * 128 : Nat) : Int)), some (.int (j : Int))] H := by
  have hs := sub_nats (H := H) ha
  have e0 : (a : Int) % 128 = ((a % 128 : Nat) : Int) := by omega
  have e1 : (found : Int) + (a : Int) % 128 * (step : Int) = ((found + a % 128 * step : Nat) : Int) := by
    rw [Int.natCast_add, Int.natCast_mul, e0]
  have e2 : (step : Int) * 128 = ((step * 128 : Nat) : Int) := by omega
  have e3 : (j : Int) + 1 = ((j + 1 : Nat) : Int) := by omega
  have m1 : mulOk ((a : Int) % 128) (step : Int) = true := mulOk_l ⟨by have := Int.emod_nonneg (a : Int) (b := 128) (by decide); omega, by have := Int.emod_lt_of_pos (a : Int) (b := 128) (by decide); omega⟩
  have m2 : mulOk (step : Int) 128 = true := mulOk_r (by decide)
  rw [← e1, ← e2, ← e3]
  have hsz : ∀ x y : E, [x, y].length ≤ sizeLine := fun x y => le_line (by simp)
  by_cases h1 : a < 128
  · rw [if_pos h1]
    have c1 : decide ((a : Int) < 128) = true := decide_eq_true (by omega)
    by_cases h2 : a = 0 ∧ decide (j = at0) = false
    · rw [if_pos h2]
      obtain ⟨h2, h3⟩ := h2
      have c2 : cmpop .eq (.int (a : Int)) (.int 0) = some true := by rw [c_eqI, decide_eq_true (by omega)]
      have c3 : decide ((j : Int) > (at0 : Int)) = true := by
        rw [decide_eq_false_iff_not] at h3
        exact decide_eq_true (by omega)
      simp -implicitDefEqProofs only [Stms.ev, Stm.ev, Ex.ev, Ex.evT, Exs.ev, Exs.evAnd, Exs.evOr, Exs.evTAnd, Exs.evTOr, Ox.ev, Ox.evT, Lx.ev, It.ev, v_c, v_bin, v_cmp, v_bl, v_isN, v_ntN, v_not, v_tru, v_asB, v_and, v_or, v_if, v_tup, v_nil, v_cons, v_sub, v_onone, v_osome, v_slice, v_call, v_glb, v_ofE, v_disp, v_cat, v_bi1, v_biL, v_isi, v_inS, v_sidx, v_join, v_subL, v_new, v_dct, v_lenSet, v_yes, v_itL, v_itA, v_itR1, v_itR2, v_lc, q_v_asg, q_v_par, q_v_setD, q_v_expr, q_v_app, q_v_if, q_v_for, q_v_ret, o_add, o_sub, c_lt, c_le, c_gt, c_ge, a_add, R.bind_ok, R.bind_ex, R.bind_bad, R.st_ok, R.st_ex, R.st_bad, RS.seq_nx, RS.seq_rt, RS.seq_ex, RS.seq_bk, RS.seq_ct, RS.seq_bad, optR_some, optR_none, Tg.set, setAll, asB, Lt.truthy, isNon, biLE, getL_tmp, getM_tmp, Option.isSome_some, reduceIte, if_true, if_false, Bool.false_eq_true, Option.map_some, w0, w1, w2, w3, w4, w5, w6, w7, w8, w9, w10, w11, w12, w13, w14, w15, w16, w17, w18, w19, w20, w21, w22, w23, w24, x0, x1, x2, x3, x4, x5, x6, x7, x8, x9, x10, x11, x12, x13, x14, x15, x16, x17, x18, x19, x20, x21, x22, x23, x24, z0, z1, z2, z3, z4, z5, z6, z7, z8, z9, z10, z11, z12, z13, z14, z15, z16, z17, z18, z19, z20, z21, z22, z23, z24, y0, y1, y2, y3, y4, y5, y6, y7, y8, y9, y10, y11, y12, y13, y14, y15, y16, y17, y18, y19, y20, y21, y22, y23, y24, b1_0, hs, o_mod (show (0 : Int) < 128 by decide), o_mul m1, a_mul m2, c1, c2, c3]
    · rw [if_neg h2]
      by_cases c4 : (a : Int) = 0
      · have c3 : decide ((j : Int) > (at0 : Int)) = false := decide_eq_false fun h => h2 ⟨by omega, decide_eq_false (by omega)⟩
        have c2 : cmpop .eq (.int (a : Int)) (.int 0) = some true := by rw [c_eqI, decide_eq_true c4]
        simp -implicitDefEqProofs only [Stms.ev, Stm.ev, Ex.ev, Ex.evT, Exs.ev, Exs.evAnd, Exs.evOr, Exs.evTAnd, Exs.evTOr, Ox.ev, Ox.evT, Lx.ev, It.ev, v_c, v_bin, v_cmp, v_bl, v_isN, v_ntN, v_not, v_tru, v_asB, v_and, v_or, v_if, v_tup, v_nil, v_cons, v_sub, v_onone, v_osome, v_slice, v_call, v_glb, v_ofE, v_disp, v_cat, v_bi1, v_biL, v_isi, v_inS, v_sidx, v_join, v_subL, v_new, v_dct, v_lenSet, v_yes, v_itL, v_itA, v_itR1, v_itR2, v_lc, q_v_asg, q_v_par, q_v_setD, q_v_expr, q_v_app, q_v_if, q_v_for, q_v_ret, o_add, o_sub, c_lt, c_le, c_gt, c_ge, a_add, R.bind_ok, R.bind_ex, R.bind_bad, R.st_ok, R.st_ex, R.st_bad, RS.seq_nx, RS.seq_rt, RS.seq_ex, RS.seq_bk, RS.seq_ct, RS.seq_bad, optR_some, optR_none, Tg.set, setAll, asB, Lt.truthy, isNon, biLE, getL_tmp, getM_tmp, Option.isSome_some, reduceIte, if_true, if_false, Bool.false_eq_true, Option.map_some, w0, w1, w2, w3, w4, w5, w6, w7, w8, w9, w10, w11, w12, w13, w14, w15, w16, w17, w18, w19, w20, w21, w22, w23, w24, x0, x1, x2, x3, x4, x5, x6, x7, x8, x9, x10, x11, x12, x13, x14, x15, x16, x17, x18, x19, x20, x21, x22, x23, x24, z0, z1, z2, z3, z4, z5, z6, z7, z8, z9, z10, z11, z12, z13, z14, z15, z16, z17, z18, z19, z20, z21, z22, z23, z24, y0, y1, y2, y3, y4, y5, y6, y7, y8, y9, y10, y11, y12, y13, y14, y15, y16, y17, y18, y19, y20, y21, y22, y23, y24, b1_0, hs, o_mod (show (0 : Int) < 128 by decide), o_mul m1, a_mul m2, c1, c2, c3, hsz]
      · have c2 : cmpop .eq (.int (a : Int)) (.int 0) = some false := by rw [c_eqI, decide_eq_false c4]
        simp -implicitDefEqProofs only [Stms.ev, Stm.ev, Ex.ev, Ex.evT, Exs.ev, Exs.evAnd, Exs.evOr, Exs.evTAnd, Exs.evTOr, Ox.ev, Ox.evT, Lx.ev, It.ev, v_c, v_bin, v_cmp, v_bl, v_isN, v_ntN, v_not, v_tru, v_asB, v_and, v_or, v_if, v_tup, v_nil, v_cons, v_sub, v_onone, v_osome, v_slice, v_call, v_glb, v_ofE, v_disp, v_cat, v_bi1, v_biL, v_isi, v_inS, v_sidx, v_join, v_subL, v_new, v_dct, v_lenSet, v_yes, v_itL, v_itA, v_itR1, v_itR2, v_lc, q_v_asg, q_v_par, q_v_setD, q_v_expr, q_v_app, q_v_if, q_v_for, q_v_ret, o_add, o_sub, c_lt, c_le, c_gt, c_ge, a_add, R.bind_ok, R.bind_ex, R.bind_bad, R.st_ok, R.st_ex, R.st_bad, RS.seq_nx, RS.seq_rt, RS.seq_ex, RS.seq_bk, RS.seq_ct, RS.seq_bad, optR_some, optR_none, Tg.set, setAll, asB, Lt.truthy, isNon, biLE, getL_tmp, getM_tmp, Option.isSome_some, reduceIte, if_true, if_false, Bool.false_eq_true, Option.map_some, w0, w1, w2, w3, w4, w5, w6, w7, w8, w9, w10, w11, w12, w13, w14, w15, w16, w17, w18, w19, w20, w21, w22, w23, w24, x0, x1, x2, x3, x4, x5, x6, x7, x8, x9, x10, x11, x12, x13, x14, x15, x16, x17, x18, x19, x20, x21, x22, x23, x24, z0, z1, z2, z3, z4, z5, z6, z7, z8, z9, z10, z11, z12, z13, z14, z15, z16, z17, z18, z19, z20, z21, z22, z23, z24, y0, y1, y2, y3, y4, y5, y6, y7, y8, y9, y10, y11, y12, y13, y14, y15, y16, y17, y18, y19, y20, y21, y22, y23, y24, b1_0, hs, o_mod (show (0 : Int) < 128 by decide), o_mul m1, a_mul m2, c1, c2, hsz]
  · rw [if_neg h1]
    have c1 : decide ((a : Int) < 128) = false := decide_eq_false (by omega)
    simp -implicitDefEqProofs only [Stms.ev, Stm.ev, Ex.ev, Ex.evT, Exs.ev, Exs.evAnd, Exs.evOr, Exs.evTAnd, Exs.evTOr, Ox.ev, Ox.evT, Lx.ev, It.ev, v_c, v_bin, v_cmp, v_bl, v_isN, v_ntN, v_not, v_tru, v_asB, v_and, v_or, v_if, v_tup, v_nil, v_cons, v_sub, v_onone, v_osome, v_slice, v_call, v_glb, v_ofE, v_disp, v_cat, v_bi1, v_biL, v_isi, v_inS, v_sidx, v_join, v_subL, v_new, v_dct, v_lenSet, v_yes, v_itL, v_itA, v_itR1, v_itR2, v_lc, q_v_asg, q_v_par, q_v_setD, q_v_expr, q_v_app, q_v_if, q_v_for, q_v_ret, o_add, o_sub, c_lt, c_le, c_gt, c_ge, a_add, R.bind_ok, R.bind_ex, R.bind_bad, R.st_ok, R.st_ex, R.st_bad, RS.seq_nx, RS.seq_rt, RS.seq_ex, RS.seq_bk, RS.seq_ct, RS.seq_bad, optR_some, optR_none, Tg.set, setAll, asB, Lt.truthy, isNon, biLE, getL_tmp, getM_tmp, Option.isSome_some, reduceIte, if_true, if_false, Bool.false_eq_true, Option.map_some, w0, w1, w2, w3, w4, w5, w6, w7, w8, w9, w10, w11, w12, w13, w14, w15, w16, w17, w18, w19, w20, w21, w22, w23, w24, x0, x1, x2, x3, x4, x5, x6, x7, x8, x9, x10, x11, x12, x13, x14, x15, x16, x17, x18, x19, x20, x21, x22, x23, x24, z0, z1, z2, z3, z4, z5, z6, z7, z8, z9, z10, z11, z12, z13, z14, z15, z16, z17, z18, z19, z20, z21, z22, z23, z24, y0, y1, y2, y3, y4, y5, y6, y7, y8, y9, y10, y11, y12, y13, y14, y15, y16, y17, y18, y19, y20, y21, y22, y23, y24, b1_0, hs, o_mod (show (0 : Int) < 128 by decide), o_mul m1, a_mul m2, c1]
def nOut (row : List Nat) (H : Hq) (o : Option (Nat × List Nat)) (r : RS) : Prop := match o with
  | some (v, l) => r = .rt (.tup [.int (v : Int), .int ((row.length - l.length : Nat) : Int)]) H
  | none => (∃ ρ, r = .ex 0 ρ H) ∨ ∃ ρ, r = .nx ρ H
theorem drop_get {l : List Nat} {j a : Nat} {r : List Nat} (h : l.drop j = a :: r) : l[j]? = some a ∧ l.drop (j + 1) = r ∧ j < l.length := by
  have h1 : (l.drop j)[0]? = some a := by rw [h]; rfl
  rw [List.getElem?_drop] at h1
  refine ⟨by simpa using h1, ?_, ?_⟩
  · have : l.drop (j + 1) = (l.drop j).drop 1 := by rw [List.drop_drop]
    rw [this, h]
    rfl
  · have := (List.getElem?_eq_some_iff.mp h1).1
    omega
theorem num_loop {k at0 : Nat} {row : List Nat} {H : Hq} {all : List E} {tg : Tg} (htg : tg = .name ⟨4, "place", ⟨19, 8, 19, 13⟩⟩) : ∀ (l : List Nat) (j found step : Nat) (pl : Option E), row.drop j = l → at0 ≤ j →
    nOut row H (dgo (decide (j = at0)) found step l) (forS none all tg (b1_0.ev (Pn k)) (ups j l.length) [some (.tup (nats row)), some (.int (at0 : Int)), some (.int (found : Int)), some (.int (step : Int)), pl] H)
  | [], j, found, step, pl, h, hj => .inr ⟨_, rfl⟩
  | a :: l, j, found, step, pl, h, hj => by
    obtain ⟨h1, h2, h3⟩ := drop_get h
    subst htg
    rw [List.length_cons, ups_succ]
    unfold forS
    have ht : staysB none all H = true := rfl
    rw [ht, if_pos rfl]
    show nOut row H _ (match b1_0.ev (Pn k) [some (.tup (nats row)), some (.int (at0 : Int)), some (.int (found : Int)), some (.int (step : Int)), some (.int (j : Int))] H with
      | .nx ρ2 G2 => _ | .ct ρ2 G2 => _ | .bk ρ2 G2 => _ | .rt v G2 => _ | .ex c ρ2 G2 => _ | .bad => _)
    rw [num_turn h1 hj]
    unfold dgo
    by_cases ha : a < 128
    · rw [if_pos ha, if_pos ha]
      by_cases hb : a = 0 ∧ decide (j = at0) = false
      · rw [if_pos hb, if_pos hb]
        exact .inl ⟨_, rfl⟩
      · rw [if_neg hb, if_neg hb]
        have hlen : row.length - l.length = j + 1 := by
          have := congrArg List.length h2
          rw [List.length_drop] at this
          omega
        show _ = _
        rw [hlen]
    · rw [if_neg ha, if_neg ha]
      have hd : decide (j + 1 = at0) = false := decide_eq_false (by omega)
      have := num_loop (k := k) (at0 := at0) (H := H) (all := all) rfl l (j + 1) (found + a % 128 * step) (step * 128) (some (.int (j : Int))) h2 (by omega)
      rw [hd] at this
      exact this
theorem take_number_ok {k at0 : Nat} {row : List Nat} {H : Hq} (hr : row.length ≤ 1000000) (ha : at0 ≤ 1000000) : cl (k + 1) 1 [.tup (nats row), .int (at0 : Int)] H = match dnum (row.drop at0) with
    | some (v, l) => .ok (.tup [.int (v : Int), .int ((row.length - l.length : Nat) : Int)]) H
    | none => .ex 0 H := by
  rw [cl_succ (fn := f1) rfl rfl]
  show endR true H (b1.ev (Pn k) [some (.tup (nats row)), some (.int (at0 : Int)), none, none, none] H) = _
  have hlen : lenE H (.tup (nats row)) = some row.length := by show some (nats row).length = _; rw [nats_len]
  have i1 : in62 ((at0 : Nat) : Int) = true := in62_nat ha
  have i2 : in62 ((row.length : Nat) : Int) = true := in62_nat hr
  have hsub : ((row.length : Int) - (at0 : Int)).toNat = (row.drop at0).length := by rw [List.length_drop]; omega
  have hsz : ∀ x y : E, [x, y].length ≤ sizeLine := fun x y => le_line (by simp)
  have hl := num_loop (k := k) (at0 := at0) (H := H) (all := ups at0 (row.drop at0).length) rfl (row.drop at0) at0 0 1 none rfl (Nat.le_refl _)
  rw [decide_eq_true rfl] at hl
  have e : ∀ r, forS none (ups at0 (row.drop at0).length) (.name ⟨4, "place", ⟨19, 8, 19, 13⟩⟩) (b1_0.ev (Pn k)) (ups at0 (row.drop at0).length) [some (.tup (nats row)), some (.int (at0 : Int)), some (.int 0), some (.int 1), none] H = r →
      b1.ev (Pn k) [some (.tup (nats row)), some (.int (at0 : Int)), none, none, none] H = r.seq fun ρ G => .ex 0 ρ G := by
    intro r hr
    simp -implicitDefEqProofs only [Stms.ev, Stm.ev, Ex.ev, Ex.evT, Exs.ev, Exs.evAnd, Exs.evOr, Exs.evTAnd, Exs.evTOr, Ox.ev, Ox.evT, Lx.ev, It.ev, v_c, v_bin, v_cmp, v_bl, v_isN, v_ntN, v_not, v_tru, v_asB, v_and, v_or, v_if, v_tup, v_nil, v_cons, v_sub, v_onone, v_osome, v_slice, v_call, v_glb, v_ofE, v_disp, v_cat, v_bi1, v_biL, v_isi, v_inS, v_sidx, v_join, v_subL, v_new, v_dct, v_lenSet, v_yes, v_itL, v_itA, v_itR1, v_itR2, v_lc, q_v_asg, q_v_par, q_v_setD, q_v_expr, q_v_app, q_v_if, q_v_for, q_v_ret, o_add, o_sub, c_lt, c_le, c_gt, c_ge, a_add, R.bind_ok, R.bind_ex, R.bind_bad, R.st_ok, R.st_ex, R.st_bad, RS.seq_nx, RS.seq_rt, RS.seq_ex, RS.seq_bk, RS.seq_ct, RS.seq_bad, optR_some, optR_none, Tg.set, setAll, asB, Lt.truthy, isNon, biLE, getL_tmp, getM_tmp, Option.isSome_some, reduceIte, if_true, if_false, Bool.false_eq_true, Option.map_some, w0, w1, w2, w3, w4, w5, w6, w7, w8, w9, w10, w11, w12, w13, w14, w15, w16, w17, w18, w19, w20, w21, w22, w23, w24, x0, x1, x2, x3, x4, x5, x6, x7, x8, x9, x10, x11, x12, x13, x14, x15, x16, x17, x18, x19, x20, x21, x22, x23, x24, z0, z1, z2, z3, z4, z5, z6, z7, z8, z9, z10, z11, z12, z13, z14, z15, z16, z17, z18, z19, z20, z21, z22, z23, z24, y0, y1, y2, y3, y4, y5, y6, y7, y8, y9, y10, y11, y12, y13, y14, y15, y16, y17, y18, y19, y20, y21, y22, y23, y24, b1, hsz, hlen, bi1E, intE, i1, i2, Bool.and_self, hsub, rng_ups, hr]
  unfold dnum
  cases hd : dgo true 0 1 (row.drop at0) with
  | none =>
    rw [hd] at hl
    rcases hl with ⟨ρ, hl⟩ | ⟨ρ, hl⟩
    · rw [e _ hl]; rfl
    · rw [e _ hl]; rfl
  | some p =>
    obtain ⟨v, l⟩ := p
    rw [hd] at hl
    rw [e _ hl]
    exact endR_rt0 rfl
end K01
end
section
set_option Elab.async false
set_option linter.all false
set_option maxRecDepth 100000
set_option maxHeartbeats 1000000
/-! k01: check_sum. -/
namespace K01
open PySem Lt
def cgo : List Nat → Nat → Nat → Nat × Nat
  | [], lo, hi => (lo, hi)
  | a :: r, lo, hi => cgo r ((lo + a) % 65521) ((hi + (lo + a) % 65521) % 65521)
def csum (l : List Nat) : Nat := (cgo l 1 0).2 * 65521 + (cgo l 1 0).1
theorem sum_turn {k a lo hi : Nat} {row : E} {H : Hq} : b8_0.ev (Pn k) [some row, some (.int (lo : Int)), some (.int (hi : Int)), some (.int (a : Int))] H = .nx [some row, some (.int (((lo + a) % 65521 : Nat) : Int)), some (.int (((hi + (lo + a) % 65521) % 65521 : Nat) : Int)), some (.int (a : Int))] H := by
  have e1 : ((lo : Int) + (a : Int)) % 65521 = (((lo + a) % 65521 : Nat) : Int) := by omega
  have e2 : ((hi : Int) + (((lo + a) % 65521 : Nat) : Int)) % 65521 = (((hi + (lo + a) % 65521) % 65521 : Nat) : Int) := by omega
  simp -implicitDefEqProofs only [Stms.ev, Stm.ev, Ex.ev, Ex.evT, Exs.ev, Exs.evAnd, Exs.evOr, Exs.evTAnd, Exs.evTOr, Ox.ev, Ox.evT, Lx.ev, It.ev, v_c, v_bin, v_cmp, v_bl, v_isN, v_ntN, v_not, v_tru, v_asB, v_and, v_or, v_if, v_tup, v_nil, v_cons, v_sub, v_onone, v_osome, v_slice, v_call, v_glb, v_ofE, v_disp, v_cat, v_bi1, v_biL, v_isi, v_inS, v_sidx, v_join, v_subL, v_new, v_dct, v_lenSet, v_yes, v_itL, v_itA, v_itR1, v_itR2, v_lc, q_v_asg, q_v_par, q_v_setD, q_v_expr, q_v_app, q_v_if, q_v_for, q_v_ret, o_add, o_sub, c_lt, c_le, c_gt, c_ge, a_add, R.bind_ok, R.bind_ex, R.bind_bad, R.st_ok, R.st_ex, R.st_bad, RS.seq_nx, RS.seq_rt, RS.seq_ex, RS.seq_bk, RS.seq_ct, RS.seq_bad, optR_some, optR_none, Tg.set, setAll, asB, Lt.truthy, isNon, biLE, getL_tmp, getM_tmp, Option.isSome_some, reduceIte, if_true, if_false, Bool.false_eq_true, Option.map_some, w0, w1, w2, w3, w4, w5, w6, w7, w8, w9, w10, w11, w12, w13, w14, w15, w16, w17, w18, w19, w20, w21, w22, w23, w24, x0, x1, x2, x3, x4, x5, x6, x7, x8, x9, x10, x11, x12, x13, x14, x15, x16, x17, x18, x19, x20, x21, x22, x23, x24, z0, z1, z2, z3, z4, z5, z6, z7, z8, z9, z10, z11, z12, z13, z14, z15, z16, z17, z18, z19, z20, z21, z22, z23, z24, y0, y1, y2, y3, y4, y5, y6, y7, y8, y9, y10, y11, y12, y13, y14, y15, y16, y17, y18, y19, y20, y21, y22, y23, y24, b8_0, o_mod (show (0 : Int) < 65521 by decide), e1, e2]
theorem sum_loop {k : Nat} {row : E} {H : Hq} {all : List E} : ∀ (l : List Nat) (lo hi : Nat) (v : Option E), ∃ v', forS none all (.name ⟨3, "a", ⟨76, 8, 76, 9⟩⟩) (b8_0.ev (Pn k)) (nats l) [some row, some (.int (lo : Int)), some (.int (hi : Int)), v] H = .nx [some row, some (.int ((cgo l lo hi).1 : Int)), some (.int ((cgo l lo hi).2 : Int)), v'] H
  | [], lo, hi, v => ⟨v, rfl⟩
  | a :: l, lo, hi, v => by
    obtain ⟨v', h⟩ := sum_loop (k := k) (row := row) (H := H) (all := all) l ((lo + a) % 65521) ((hi + (lo + a) % 65521) % 65521) (some (.int (a : Int)))
    refine ⟨v', ?_⟩
    rw [nats_cons, for_nx rfl rfl sum_turn]
    exact h
theorem check_sum_ok {k : Nat} {row : List Nat} {H : Hq} : cl (k + 1) 8 [.tup (nats row)] H = .ok (.int (csum row : Int)) H := by
  rw [cl_succ (fn := f8) rfl rfl]
  show endR true H (b8.ev (Pn k) [some (.tup (nats row)), none, none, none] H) = _
  obtain ⟨v', h⟩ := sum_loop (k := k) (row := .tup (nats row)) (H := H) (all := nats row) row 1 0 none
  have hsz : ∀ x y : E, [x, y].length ≤ sizeLine := fun x y => le_line (by simp)
  have m : mulOk ((cgo row 1 0).2 : Int) 65521 = true := mulOk_r (by decide)
  have e1 : ((cgo row 1 0).2 : Int) * 65521 + ((cgo row 1 0).1 : Int) = (csum row : Int) := by unfold csum; omega
  have e : b8.ev (Pn k) [some (.tup (nats row)), none, none, none] H = .rt (.int (csum row : Int)) H := by
    have h2 : forS none (nats row) (.name ⟨3, "a", ⟨76, 8, 76, 9⟩⟩) (b8_0.ev (Pn k)) (nats row) [some (.tup (nats row)), some (.int 1), some (.int 0), none] H = _ := h
    simp -implicitDefEqProofs only [Stms.ev, Stm.ev, Ex.ev, Ex.evT, Exs.ev, Exs.evAnd, Exs.evOr, Exs.evTAnd, Exs.evTOr, Ox.ev, Ox.evT, Lx.ev, It.ev, v_c, v_bin, v_cmp, v_bl, v_isN, v_ntN, v_not, v_tru, v_asB, v_and, v_or, v_if, v_tup, v_nil, v_cons, v_sub, v_onone, v_osome, v_slice, v_call, v_glb, v_ofE, v_disp, v_cat, v_bi1, v_biL, v_isi, v_inS, v_sidx, v_join, v_subL, v_new, v_dct, v_lenSet, v_yes, v_itL, v_itA, v_itR1, v_itR2, v_lc, q_v_asg, q_v_par, q_v_setD, q_v_expr, q_v_app, q_v_if, q_v_for, q_v_ret, o_add, o_sub, c_lt, c_le, c_gt, c_ge, a_add, R.bind_ok, R.bind_ex, R.bind_bad, R.st_ok, R.st_ex, R.st_bad, RS.seq_nx, RS.seq_rt, RS.seq_ex, RS.seq_bk, RS.seq_ct, RS.seq_bad, optR_some, optR_none, Tg.set, setAll, asB, Lt.truthy, isNon, biLE, getL_tmp, getM_tmp, Option.isSome_some, reduceIte, if_true, if_false, Bool.false_eq_true, Option.map_some, w0, w1, w2, w3, w4, w5, w6, w7, w8, w9, w10, w11, w12, w13, w14, w15, w16, w17, w18, w19, w20, w21, w22, w23, w24, x0, x1, x2, x3, x4, x5, x6, x7, x8, x9, x10, x11, x12, x13, x14, x15, x16, x17, x18, x19, x20, x21, x22, x23, x24, z0, z1, z2, z3, z4, z5, z6, z7, z8, z9, z10, z11, z12, z13, z14, z15, z16, z17, z18, z19, z20, z21, z22, z23, z24, y0, y1, y2, y3, y4, y5, y6, y7, y8, y9, y10, y11, y12, y13, y14, y15, y16, y17, y18, y19, y20, y21, y22, y23, y24, b8, hsz, itE, h2, o_mul m, e1]
  rw [e]
  exact endR_rt0 rfl
/-! ### the signs -/
def AL : Str := " !#$&'()*+,-./0123456789:;<=>?@ABCDEFGHIJKLMNOPQRSTUVWXYZ[]^_abcdefghijklmnopqrstuvwxyz{|}~"
def AC : List Nat := AL.cps.toList
theorem AC_len : AC.length = 91 := by decide +kernel
/-- the sign at a place -/
def sg (i : Nat) : Str := ⟨#[AC.getD i 0]⟩
def txt (l : List Nat) : Str := ⟨(l.map fun i => AC.getD i 0).toArray⟩
theorem signs_txt (l : List Nat) : signs (txt l) = l.map fun i => E.str (sg i) := by
  simp [signs, txt, sg]
theorem txt_len (l : List Nat) : (txt l).length = l.length := by
  show (txt l).cps.size = _
  simp [txt]
theorem in_AL : ∀ i, i < 91 → inSE (.str (sg i)) (.str AL) = some true := by
  have h : (List.range 91).all (fun i => inSE (.str (sg i)) (.str AL) == some true) = true := by decide +kernel
  intro i hi
  have := List.all_eq_true.mp h i (List.mem_range.mpr hi)
  simpa using this
theorem ix_AL : ∀ i, i < 91 → sidxE (.str AL) (.str (sg i)) = some (.int (i : Int)) := by
  have h : (List.range 91).all (fun i => PySem.Txt.index0 AL (sg i) == some i) = true := by decide +kernel
  intro i hi
  have := List.all_eq_true.mp h i (List.mem_range.mpr hi)
  have e : PySem.Txt.index0 AL (sg i) = some i := by simpa using this
  show (PySem.Txt.index0 AL (sg i)).map _ = _
  rw [e]
  rfl
end K01
end
section
set_option Elab.async false
set_option linter.all false
set_option maxRecDepth 100000
set_option maxHeartbeats 1000000
/-! k01: texts. -/
namespace K01
open PySem Lt
theorem glb0 {k : Nat} : (Pn k).gl 0 = some (.str AL) := rfl
theorem glb1 {k : Nat} : (Pn k).gl 1 = some (.int 40) := rfl
theorem AL_len : AL.length = 91 := by
  have := AC_len
  rw [AC, Array.length_toList] at this
  exact this
theorem asBs_true {α : Type} : ∀ l : List α, asBs (l.map fun _ => E.bl true) = some (l.map fun _ => true)
  | [] => rfl
  | a :: l => by
    show (match some true, asBs (l.map fun _ => E.bl true) with | some b, some bs => some (b :: bs) | _, _ => none) = _
    rw [asBs_true l]
    rfl
theorem all_true {α : Type} : ∀ l : List α, (l.map fun _ => true).all id = true
  | [] => rfl
  | a :: l => by
    show (true && (l.map fun _ => true).all id) = true
    rw [all_true l]; rfl
/-- a text's bytes -/
theorem put_text_ok {k : Nat} {l : List Nat} {H : Hq} (hl : l.length ≤ 1000) (h91 : ∀ i ∈ l, i < 91) : cl (k + 2) 2 [.str (txt l)] H = .ok (.tup (nats (num l.length ++ l))) H := by
  rw [cl_succ (fn := f2) rfl rfl]
  show endR true H (b2.ev (Pn (k + 1)) [some (.str (txt l)), none, none] H) = _
  have e1 : lcS none (signs (txt l)) (.name ⟨2, "sign", ⟨28, 37, 28, 41⟩⟩) sYes (b2_1.ev (Pn (k + 1))) [some (.str (txt l)), none, none] (signs (txt l)) [] H = .ok (l.map fun _ => .bl true) H := by
    have := lc_map (H := H) (g := fun i => E.str (sg i)) (f := fun _ => E.bl true) (c := sYes) (e := b2_1.ev (Pn (k + 1))) (n := ⟨2, "sign", ⟨28, 37, 28, 41⟩⟩) (ρ := [some (.str (txt l)), none, none]) (all := signs (txt l)) (fun _ => rfl) l [] (fun i hi => by
      have hin := in_AL i (h91 i hi)
      simp -implicitDefEqProofs only [Stms.ev, Stm.ev, Ex.ev, Ex.evT, Exs.ev, Exs.evAnd, Exs.evOr, Exs.evTAnd, Exs.evTOr, Ox.ev, Ox.evT, Lx.ev, It.ev, v_c, v_bin, v_cmp, v_bl, v_isN, v_ntN, v_not, v_tru, v_asB, v_and, v_or, v_if, v_tup, v_nil, v_cons, v_sub, v_onone, v_osome, v_slice, v_call, v_glb, v_ofE, v_disp, v_cat, v_bi1, v_biL, v_isi, v_inS, v_sidx, v_join, v_subL, v_new, v_dct, v_lenSet, v_yes, v_itL, v_itA, v_itR1, v_itR2, v_lc, q_v_asg, q_v_par, q_v_setD, q_v_expr, q_v_app, q_v_if, q_v_for, q_v_ret, o_add, o_sub, c_lt, c_le, c_gt, c_ge, a_add, R.bind_ok, R.bind_ex, R.bind_bad, R.st_ok, R.st_ex, R.st_bad, RS.seq_nx, RS.seq_rt, RS.seq_ex, RS.seq_bk, RS.seq_ct, RS.seq_bad, optR_some, optR_none, Tg.set, setAll, asB, Lt.truthy, isNon, biLE, getL_tmp, getM_tmp, Option.isSome_some, reduceIte, if_true, if_false, Bool.false_eq_true, Option.map_some, w0, w1, w2, w3, w4, w5, w6, w7, w8, w9, w10, w11, w12, w13, w14, w15, w16, w17, w18, w19, w20, w21, w22, w23, w24, x0, x1, x2, x3, x4, x5, x6, x7, x8, x9, x10, x11, x12, x13, x14, x15, x16, x17, x18, x19, x20, x21, x22, x23, x24, z0, z1, z2, z3, z4, z5, z6, z7, z8, z9, z10, z11, z12, z13, z14, z15, z16, z17, z18, z19, z20, z21, z22, z23, z24, y0, y1, y2, y3, y4, y5, y6, y7, y8, y9, y10, y11, y12, y13, y14, y15, y16, y17, y18, y19, y20, y21, y22, y23, y24, b2_1, glb0, hin]) (by simp; omega)
    rw [signs_txt] at this ⊢
    exact this
  have e2 : lcS none (signs (txt l)) (.name ⟨2, "sign", ⟨30, 67, 30, 71⟩⟩) sYes (b2_0.ev (Pn (k + 1))) [some (.str (txt l)), none, none] (signs (txt l)) [] H = .ok (nats l) H := by
    have := lc_map (H := H) (g := fun i => E.str (sg i)) (f := fun (i : Nat) => E.int (i : Int)) (c := sYes) (e := b2_0.ev (Pn (k + 1))) (n := ⟨2, "sign", ⟨30, 67, 30, 71⟩⟩) (ρ := [some (.str (txt l)), none, none]) (all := signs (txt l)) (fun _ => rfl) l [] (fun i hi => by
      have hin := ix_AL i (h91 i hi)
      simp -implicitDefEqProofs only [Stms.ev, Stm.ev, Ex.ev, Ex.evT, Exs.ev, Exs.evAnd, Exs.evOr, Exs.evTAnd, Exs.evTOr, Ox.ev, Ox.evT, Lx.ev, It.ev, v_c, v_bin, v_cmp, v_bl, v_isN, v_ntN, v_not, v_tru, v_asB, v_and, v_or, v_if, v_tup, v_nil, v_cons, v_sub, v_onone, v_osome, v_slice, v_call, v_glb, v_ofE, v_disp, v_cat, v_bi1, v_biL, v_isi, v_inS, v_sidx, v_join, v_subL, v_new, v_dct, v_lenSet, v_yes, v_itL, v_itA, v_itR1, v_itR2, v_lc, q_v_asg, q_v_par, q_v_setD, q_v_expr, q_v_app, q_v_if, q_v_for, q_v_ret, o_add, o_sub, c_lt, c_le, c_gt, c_ge, a_add, R.bind_ok, R.bind_ex, R.bind_bad, R.st_ok, R.st_ex, R.st_bad, RS.seq_nx, RS.seq_rt, RS.seq_ex, RS.seq_bk, RS.seq_ct, RS.seq_bad, optR_some, optR_none, Tg.set, setAll, asB, Lt.truthy, isNon, biLE, getL_tmp, getM_tmp, Option.isSome_some, reduceIte, if_true, if_false, Bool.false_eq_true, Option.map_some, w0, w1, w2, w3, w4, w5, w6, w7, w8, w9, w10, w11, w12, w13, w14, w15, w16, w17, w18, w19, w20, w21, w22, w23, w24, x0, x1, x2, x3, x4, x5, x6, x7, x8, x9, x10, x11, x12, x13, x14, x15, x16, x17, x18, x19, x20, x21, x22, x23, x24, z0, z1, z2, z3, z4, z5, z6, z7, z8, z9, z10, z11, z12, z13, z14, z15, z16, z17, z18, z19, z20, z21, z22, z23, z24, y0, y1, y2, y3, y4, y5, y6, y7, y8, y9, y10, y11, y12, y13, y14, y15, y16, y17, y18, y19, y20, y21, y22, y23, y24, b2_0, glb0, hin]) (by simp; omega)
    rw [signs_txt] at this ⊢
    exact this
  have hlen : lenE H (.str (txt l)) = some l.length := by
    show (if (txt l).length ≤ sizeLine then some (txt l).length else none) = _
    rw [if_pos (by rw [txt_len]; exact le_line (by omega)), txt_len]
  have hcl : (Pn (k + 1)).cl 0 [.int (l.length : Int)] H = .ok (.tup (nats (num l.length))) H := put_number_ok (Nat.lt_of_lt_of_le (show l.length < 128 ^ 2 by omega) (Nat.pow_le_pow_right (by omega) (by omega)))
  have hnl : (num l.length).length ≤ 3 := by
    unfold num
    rw [List.length_append]
    have := numI_len 1 l.length (by omega)
    simp; omega
  have e : b2.ev (Pn (k + 1)) [some (.str (txt l)), none, none] H = .rt (.tup (nats (num l.length ++ l))) H := by
    simp -implicitDefEqProofs only [Stms.ev, Stm.ev, Ex.ev, Ex.evT, Exs.ev, Exs.evAnd, Exs.evOr, Exs.evTAnd, Exs.evTOr, Ox.ev, Ox.evT, Lx.ev, It.ev, v_c, v_bin, v_cmp, v_bl, v_isN, v_ntN, v_not, v_tru, v_asB, v_and, v_or, v_if, v_tup, v_nil, v_cons, v_sub, v_onone, v_osome, v_slice, v_call, v_glb, v_ofE, v_disp, v_cat, v_bi1, v_biL, v_isi, v_inS, v_sidx, v_join, v_subL, v_new, v_dct, v_lenSet, v_yes, v_itL, v_itA, v_itR1, v_itR2, v_lc, q_v_asg, q_v_par, q_v_setD, q_v_expr, q_v_app, q_v_if, q_v_for, q_v_ret, o_add, o_sub, c_lt, c_le, c_gt, c_ge, a_add, R.bind_ok, R.bind_ex, R.bind_bad, R.st_ok, R.st_ex, R.st_bad, RS.seq_nx, RS.seq_rt, RS.seq_ex, RS.seq_bk, RS.seq_ct, RS.seq_bad, optR_some, optR_none, Tg.set, setAll, asB, Lt.truthy, isNon, biLE, getL_tmp, getM_tmp, Option.isSome_some, reduceIte, if_true, if_false, Bool.false_eq_true, Option.map_some, w0, w1, w2, w3, w4, w5, w6, w7, w8, w9, w10, w11, w12, w13, w14, w15, w16, w17, w18, w19, w20, w21, w22, w23, w24, x0, x1, x2, x3, x4, x5, x6, x7, x8, x9, x10, x11, x12, x13, x14, x15, x16, x17, x18, x19, x20, x21, x22, x23, x24, z0, z1, z2, z3, z4, z5, z6, z7, z8, z9, z10, z11, z12, z13, z14, z15, z16, z17, z18, z19, z20, z21, z22, z23, z24, y0, y1, y2, y3, y4, y5, y6, y7, y8, y9, y10, y11, y12, y13, y14, y15, y16, y17, y18, y19, y20, y21, y22, y23, y24, b2, wipeR, itE, e1, e2, asBs_true, all_true, hlen, bi1E, hcl, o_addT (show (nats (num l.length)).length + (nats l).length ≤ 16777216 by rw [nats_len, nats_len]; omega), ← nats_app, Bool.not_true, List.map_cons, List.map_nil]
  rw [e]
  exact endR_rt0 (dat_nats _)
end K01
end
section
set_option Elab.async false
set_option linter.all false
set_option maxRecDepth 100000
set_option maxHeartbeats 1000000
/-! k01: take_text. -/
namespace K01
open PySem Lt
theorem par_cl {k f : Nat} {es : List E} {H : Hq} : (Pn k).cl f es H = cl k f es H := rfl
theorem sIx_nat (n d k : Nat) : HT.sIx n d (some (k : Int)) = min k n := HT.sIx_nat n d k
theorem cut_nats {row : List Nat} {a b : Nat} : cutE (some (a : Int)) (some (b : Int)) (.tup (nats row)) = some (.tup (nats ((row.drop a).take (b - a)))) := by
  show some (E.tup (((nats row).drop (HT.sIx (nats row).length 0 (some (a : Int)))).take (HT.sIx (nats row).length (nats row).length (some (b : Int)) - HT.sIx (nats row).length 0 (some (a : Int))))) = _
  rw [sIx_nat, sIx_nat, nats_len]
  congr 2
  unfold nats
  rw [← List.map_drop, ← List.map_take]
  congr 1
  by_cases ha : a ≤ row.length
  · rw [Nat.min_eq_left ha]
    by_cases hb : b ≤ row.length
    · rw [Nat.min_eq_left hb]
    · rw [Nat.min_eq_right (by omega), List.take_of_length_le (by rw [List.length_drop]; omega), List.take_of_length_le (by rw [List.length_drop]; omega)]
  · have h1 : min a row.length = row.length := Nat.min_eq_right (by omega)
    rw [h1, List.drop_length, List.drop_of_length_le (show row.length ≤ a by omega)]
    simp
/-- what is left is the row's end -/
theorem dgo_suffix : ∀ {l : List Nat} {b : Bool} {f s v : Nat} {r : List Nat}, dgo b f s l = some (v, r) → ∃ p, l = p ++ r
  | [], _, _, _, _, _, h => by cases h
  | a :: l, b, f, s, v, r, h => by
    unfold dgo at h
    split at h
    · split at h
      · cases h
      · cases h; exact ⟨[a], rfl⟩
    · obtain ⟨p, rfl⟩ := dgo_suffix h
      exact ⟨a :: p, rfl⟩
theorem suffix_drop {row r p : List Nat} {at0 : Nat} (h : row.drop at0 = p ++ r) : row.drop (row.length - r.length) = r := by
  have key : ∀ (x q r : List Nat), x = q ++ r → x.drop (x.length - r.length) = r := by
    rintro x q r rfl
    rw [List.length_append, Nat.add_sub_cancel]
    exact List.drop_left
  refine key row (row.take at0 ++ p) r ?_
  rw [List.append_assoc, ← h, List.take_append_drop]
def dtxt (l : List Nat) : Option (List Nat × List Nat) := match dnum l with
  | none => none
  | some (n, r) => if (r.take n).length < n ∨ ¬ ((r.take n).all fun a => decide (a < 91)) = true then none else some (r.take n, r.drop n)
theorem asBs_map {α : Type} (p : α → Bool) : ∀ l : List α, asBs (l.map fun a => E.bl (p a)) = some (l.map p)
  | [] => rfl
  | a :: l => by
    show (match some (p a), asBs (l.map fun a => E.bl (p a)) with | some b, some bs => some (b :: bs) | _, _ => none) = _
    rw [asBs_map p l]
    rfl
theorem all_id {α : Type} (p : α → Bool) (l : List α) : (l.map p).all id = l.all p := by
  rw [List.all_map]; rfl
theorem asSs_map {α : Type} (p : α → Str) : ∀ l : List α, asSs (l.map fun a => E.str (p a)) = some (l.map p)
  | [] => rfl
  | a :: l => by
    show (asSs (l.map fun a => E.str (p a))).map (p a :: ·) = _
    rw [asSs_map p l]
    rfl
theorem fold_sg : ∀ (l : List Nat) (acc : Array Nat), (l.map sg).foldl (fun acc p => acc ++ Str.empty.cps ++ p.cps) acc = acc ++ (l.map fun i => AC.getD i 0).toArray
  | [], acc => by simp
  | a :: l, acc => by
    rw [List.map_cons, List.foldl_cons, fold_sg l]
    have e : Str.empty.cps = #[] := rfl
    rw [e]
    simp [sg]
theorem join_sg (l : List Nat) : Txt.join Str.empty (l.map sg) = txt l := by
  cases l with
  | nil => rfl
  | cons a l =>
    show (⟨((sg a :: l.map sg).drop 1).foldl (fun acc p => acc ++ Str.empty.cps ++ p.cps) ((sg a :: l.map sg).headD Str.empty).cps⟩ : Str) = _
    show (⟨(l.map sg).foldl (fun acc p => acc ++ Str.empty.cps ++ p.cps) (sg a).cps⟩ : Str) = _
    rw [fold_sg]
    simp [txt, sg]
theorem sum_sg : ∀ l : List Nat, ((l.map sg).map fun (x : Str) => x.length).sum = l.length
  | [] => rfl
  | a :: l => by
    rw [List.map_cons, List.map_cons, List.sum_cons, sum_sg l, List.length_cons]
    show 1 + l.length = _
    omega
theorem joinE_sg {l : List Nat} (h : l.length ≤ 1000000) : joinE (.str Str.empty) (l.map fun i => E.str (sg i)) = some (.str (txt l)) := by
  unfold joinE
  rw [asSs_map]
  show (if ((l.map sg).map fun (x : Str) => x.length).sum + (l.map sg).length * Str.empty.length ≤ 16777216 then some (E.str (Txt.join Str.empty (l.map sg))) else none) = _
  rw [if_pos, join_sg]
  rw [sum_sg]
  have : Str.empty.length = 0 := rfl
  rw [this]
  omega
theorem take_text_ok {k at0 : Nat} {row : List Nat} {H : Hq} (hr : row.length ≤ 100000) (ha : at0 ≤ 100000) : cl (k + 2) 3 [.tup (nats row), .int (at0 : Int)] H = match dtxt (row.drop at0) with
    | some (l, r) => .ok (.tup [.str (txt l), .int ((row.length - r.length : Nat) : Int)]) H
    | none => .ex 0 H := by
  rw [cl_succ (fn := f3) rfl rfl]
  show endR true H (b3.ev (Pn (k + 1)) [some (.tup (nats row)), some (.int (at0 : Int)), none, none, none, none] H) = _
  have hcl := take_number_ok (k := k) (H := H) (row := row) (at0 := at0) (by omega) (by omega)
  rw [← par_cl] at hcl
  unfold dtxt
  cases hd : dnum (row.drop at0) with
  | none =>
    rw [hd] at hcl
    simp only at hcl
    have e : b3.ev (Pn (k + 1)) [some (.tup (nats row)), some (.int (at0 : Int)), none, none, none, none] H = .ex 0 [some (.tup (nats row)), some (.int (at0 : Int)), none, none, none, none] H := by
      simp -implicitDefEqProofs only [Stms.ev, Stm.ev, Ex.ev, Ex.evT, Exs.ev, Exs.evAnd, Exs.evOr, Exs.evTAnd, Exs.evTOr, Ox.ev, Ox.evT, Lx.ev, It.ev, v_c, v_bin, v_cmp, v_bl, v_isN, v_ntN, v_not, v_tru, v_asB, v_and, v_or, v_if, v_tup, v_nil, v_cons, v_sub, v_onone, v_osome, v_slice, v_call, v_glb, v_ofE, v_disp, v_cat, v_bi1, v_biL, v_isi, v_inS, v_sidx, v_join, v_subL, v_new, v_dct, v_lenSet, v_yes, v_itL, v_itA, v_itR1, v_itR2, v_lc, q_v_asg, q_v_par, q_v_setD, q_v_expr, q_v_app, q_v_if, q_v_for, q_v_ret, o_add, o_sub, c_lt, c_le, c_gt, c_ge, a_add, R.bind_ok, R.bind_ex, R.bind_bad, R.st_ok, R.st_ex, R.st_bad, RS.seq_nx, RS.seq_rt, RS.seq_ex, RS.seq_bk, RS.seq_ct, RS.seq_bad, optR_some, optR_none, Tg.set, setAll, asB, Lt.truthy, isNon, biLE, getL_tmp, getM_tmp, Option.isSome_some, reduceIte, if_true, if_false, Bool.false_eq_true, Option.map_some, w0, w1, w2, w3, w4, w5, w6, w7, w8, w9, w10, w11, w12, w13, w14, w15, w16, w17, w18, w19, w20, w21, w22, w23, w24, x0, x1, x2, x3, x4, x5, x6, x7, x8, x9, x10, x11, x12, x13, x14, x15, x16, x17, x18, x19, x20, x21, x22, x23, x24, z0, z1, z2, z3, z4, z5, z6, z7, z8, z9, z10, z11, z12, z13, z14, z15, z16, z17, z18, z19, z20, z21, z22, z23, z24, y0, y1, y2, y3, y4, y5, y6, y7, y8, y9, y10, y11, y12, y13, y14, y15, y16, y17, y18, y19, y20, y21, y22, y23, y24, b3, hcl]
    rw [e]
    rfl
  | some p =>
    obtain ⟨n, r⟩ := p
    rw [hd] at hcl
    simp only at hcl
    obtain ⟨pre, hpre⟩ := dgo_suffix hd
    have hsuf := suffix_drop hpre
    have hrl : r.length ≤ row.length := by
      have := congrArg List.length hpre
      rw [List.length_drop, List.length_append] at this
      omega
    have hcut : cutE (some ((row.length - r.length : Nat) : Int)) (some (((row.length - r.length : Nat) : Int) + (n : Int))) (.tup (nats row)) = some (.tup (nats (r.take n))) := by
      rw [show (((row.length - r.length : Nat) : Int) + (n : Int)) = ((row.length - r.length + n : Nat) : Int) by omega, cut_nats, hsuf, Nat.add_sub_cancel_left]
    have hlen : lenE H (.tup (nats (r.take n))) = some (r.take n).length := by show some (nats (r.take n)).length = _; rw [nats_len]
    have hlA : lenE H (.str AL) = some 91 := by
      show (if AL.length ≤ sizeLine then some AL.length else none) = _
      rw [if_pos (by rw [AL_len]; exact le_line (by omega)), AL_len]
    have hall : ∀ ρ, lcS none (nats (r.take n)) (.name ⟨5, "a", ⟨34, 58, 34, 59⟩⟩) sYes (b3_1.ev (Pn (k + 1))) (some (.tup (nats row)) :: some (.int ((row.length - r.length : Nat) : Int)) :: some (.int (n : Int)) :: some (.tup (nats (r.take n))) :: none :: none :: ρ) (nats (r.take n)) [] H = .ok ((r.take n).map fun a => .bl (decide (a < 91))) H := by
      intro ρ
      have := lc_map (H := H) (g := fun (a : Nat) => E.int (a : Int)) (f := fun (a : Nat) => E.bl (decide (a < 91))) (c := sYes) (e := b3_1.ev (Pn (k + 1))) (n := ⟨5, "a", ⟨34, 58, 34, 59⟩⟩) (ρ := some (.tup (nats row)) :: some (.int ((row.length - r.length : Nat) : Int)) :: some (.int (n : Int)) :: some (.tup (nats (r.take n))) :: none :: none :: ρ) (all := nats (r.take n)) (fun _ => rfl) (r.take n) [] (fun a _ => by
        have hd : decide ((a : Int) < ((91 : Nat) : Int)) = decide (a < 91) := by
          by_cases h : a < 91
          · rw [decide_eq_true h, decide_eq_true (by omega)]
          · rw [decide_eq_false h, decide_eq_false (by omega)]
        simp -implicitDefEqProofs only [Stms.ev, Stm.ev, Ex.ev, Ex.evT, Exs.ev, Exs.evAnd, Exs.evOr, Exs.evTAnd, Exs.evTOr, Ox.ev, Ox.evT, Lx.ev, It.ev, v_c, v_bin, v_cmp, v_bl, v_isN, v_ntN, v_not, v_tru, v_asB, v_and, v_or, v_if, v_tup, v_nil, v_cons, v_sub, v_onone, v_osome, v_slice, v_call, v_glb, v_ofE, v_disp, v_cat, v_bi1, v_biL, v_isi, v_inS, v_sidx, v_join, v_subL, v_new, v_dct, v_lenSet, v_yes, v_itL, v_itA, v_itR1, v_itR2, v_lc, q_v_asg, q_v_par, q_v_setD, q_v_expr, q_v_app, q_v_if, q_v_for, q_v_ret, o_add, o_sub, c_lt, c_le, c_gt, c_ge, a_add, R.bind_ok, R.bind_ex, R.bind_bad, R.st_ok, R.st_ex, R.st_bad, RS.seq_nx, RS.seq_rt, RS.seq_ex, RS.seq_bk, RS.seq_ct, RS.seq_bad, optR_some, optR_none, Tg.set, setAll, asB, Lt.truthy, isNon, biLE, getL_tmp, getM_tmp, Option.isSome_some, reduceIte, if_true, if_false, Bool.false_eq_true, Option.map_some, w0, w1, w2, w3, w4, w5, w6, w7, w8, w9, w10, w11, w12, w13, w14, w15, w16, w17, w18, w19, w20, w21, w22, w23, w24, x0, x1, x2, x3, x4, x5, x6, x7, x8, x9, x10, x11, x12, x13, x14, x15, x16, x17, x18, x19, x20, x21, x22, x23, x24, z0, z1, z2, z3, z4, z5, z6, z7, z8, z9, z10, z11, z12, z13, z14, z15, z16, z17, z18, z19, z20, z21, z22, z23, z24, y0, y1, y2, y3, y4, y5, y6, y7, y8, y9, y10, y11, y12, y13, y14, y15, y16, y17, y18, y19, y20, y21, y22, y23, y24, b3_1, glb0, hlA, bi1E, hd]) (by simp; omega)
      exact this
    have hlt : decide (((r.take n).length : Int) < (n : Int)) = decide ((r.take n).length < n) := by
      by_cases h : (r.take n).length < n
      · rw [decide_eq_true h, decide_eq_true (by omega)]
      · rw [decide_eq_false h, decide_eq_false (by omega)]
    have h4 : ∀ x y : E, [x, y].length ≤ sizeLine := fun x y => le_line (by simp)
    by_cases hbad : (r.take n).length < n ∨ ¬ ((r.take n).all fun a => decide (a < 91)) = true
    · simp only [if_pos hbad]
      have e : ∃ ρ, b3.ev (Pn (k + 1)) [some (.tup (nats row)), some (.int (at0 : Int)), none, none, none, none] H = .ex 0 ρ H := by
        by_cases h1 : (r.take n).length < n
        · rw [decide_eq_true h1] at hlt
          refine ⟨[some (.tup (nats row)), some (.int ((row.length - r.length : Nat) : Int)), some (.int (n : Int)), some (.tup (nats (r.take n))), none, none], ?_⟩
          simp -implicitDefEqProofs only [Stms.ev, Stm.ev, Ex.ev, Ex.evT, Exs.ev, Exs.evAnd, Exs.evOr, Exs.evTAnd, Exs.evTOr, Ox.ev, Ox.evT, Lx.ev, It.ev, v_c, v_bin, v_cmp, v_bl, v_isN, v_ntN, v_not, v_tru, v_asB, v_and, v_or, v_if, v_tup, v_nil, v_cons, v_sub, v_onone, v_osome, v_slice, v_call, v_glb, v_ofE, v_disp, v_cat, v_bi1, v_biL, v_isi, v_inS, v_sidx, v_join, v_subL, v_new, v_dct, v_lenSet, v_yes, v_itL, v_itA, v_itR1, v_itR2, v_lc, q_v_asg, q_v_par, q_v_setD, q_v_expr, q_v_app, q_v_if, q_v_for, q_v_ret, o_add, o_sub, c_lt, c_le, c_gt, c_ge, a_add, R.bind_ok, R.bind_ex, R.bind_bad, R.st_ok, R.st_ex, R.st_bad, RS.seq_nx, RS.seq_rt, RS.seq_ex, RS.seq_bk, RS.seq_ct, RS.seq_bad, optR_some, optR_none, Tg.set, setAll, asB, Lt.truthy, isNon, biLE, getL_tmp, getM_tmp, Option.isSome_some, reduceIte, if_true, if_false, Bool.false_eq_true, Option.map_some, w0, w1, w2, w3, w4, w5, w6, w7, w8, w9, w10, w11, w12, w13, w14, w15, w16, w17, w18, w19, w20, w21, w22, w23, w24, x0, x1, x2, x3, x4, x5, x6, x7, x8, x9, x10, x11, x12, x13, x14, x15, x16, x17, x18, x19, x20, x21, x22, x23, x24, z0, z1, z2, z3, z4, z5, z6, z7, z8, z9, z10, z11, z12, z13, z14, z15, z16, z17, z18, z19, z20, z21, z22, z23, z24, y0, y1, y2, y3, y4, y5, y6, y7, y8, y9, y10, y11, y12, y13, y14, y15, y16, y17, y18, y19, y20, y21, y22, y23, y24, b3, hcl, hcut, hlen, bi1E, hlt]
        · rw [decide_eq_false h1] at hlt
          have h2 : ((r.take n).all fun a => decide (a < 91)) = false := by
            rcases hbad with h | h
            · exact absurd h h1
            · simpa using h
          refine ⟨[some (.tup (nats row)), some (.int ((row.length - r.length : Nat) : Int)), some (.int (n : Int)), some (.tup (nats (r.take n))), none, none], ?_⟩
          simp -implicitDefEqProofs only [Stms.ev, Stm.ev, Ex.ev, Ex.evT, Exs.ev, Exs.evAnd, Exs.evOr, Exs.evTAnd, Exs.evTOr, Ox.ev, Ox.evT, Lx.ev, It.ev, v_c, v_bin, v_cmp, v_bl, v_isN, v_ntN, v_not, v_tru, v_asB, v_and, v_or, v_if, v_tup, v_nil, v_cons, v_sub, v_onone, v_osome, v_slice, v_call, v_glb, v_ofE, v_disp, v_cat, v_bi1, v_biL, v_isi, v_inS, v_sidx, v_join, v_subL, v_new, v_dct, v_lenSet, v_yes, v_itL, v_itA, v_itR1, v_itR2, v_lc, q_v_asg, q_v_par, q_v_setD, q_v_expr, q_v_app, q_v_if, q_v_for, q_v_ret, o_add, o_sub, c_lt, c_le, c_gt, c_ge, a_add, R.bind_ok, R.bind_ex, R.bind_bad, R.st_ok, R.st_ex, R.st_bad, RS.seq_nx, RS.seq_rt, RS.seq_ex, RS.seq_bk, RS.seq_ct, RS.seq_bad, optR_some, optR_none, Tg.set, setAll, asB, Lt.truthy, isNon, biLE, getL_tmp, getM_tmp, Option.isSome_some, reduceIte, if_true, if_false, Bool.false_eq_true, Option.map_some, w0, w1, w2, w3, w4, w5, w6, w7, w8, w9, w10, w11, w12, w13, w14, w15, w16, w17, w18, w19, w20, w21, w22, w23, w24, x0, x1, x2, x3, x4, x5, x6, x7, x8, x9, x10, x11, x12, x13, x14, x15, x16, x17, x18, x19, x20, x21, x22, x23, x24, z0, z1, z2, z3, z4, z5, z6, z7, z8, z9, z10, z11, z12, z13, z14, z15, z16, z17, z18, z19, z20, z21, z22, z23, z24, y0, y1, y2, y3, y4, y5, y6, y7, y8, y9, y10, y11, y12, y13, y14, y15, y16, y17, y18, y19, y20, y21, y22, y23, y24, b3, hcl, hcut, hlen, bi1E, hlt, itE, wipeR, List.map_cons, List.map_nil, hall, asBs_map, all_id, h2, Bool.not_false]
      obtain ⟨ρ, e⟩ := e
      rw [e]
      rfl
    · simp only [if_neg hbad]
      have h1 : ¬ (r.take n).length < n := fun h => hbad (.inl h)
      have h2 : ((r.take n).all fun a => decide (a < 91)) = true := Classical.byContradiction fun h => hbad (.inr h)
      rw [decide_eq_false h1] at hlt
      have hget : ∀ ρ, lcS none (nats (r.take n)) (.name ⟨5, "a", ⟨36, 37, 36, 38⟩⟩) sYes (b3_0.ev (Pn (k + 1))) (some (.tup (nats row)) :: some (.int ((row.length - r.length : Nat) : Int)) :: some (.int (n : Int)) :: some (.tup (nats (r.take n))) :: none :: none :: ρ) (nats (r.take n)) [] H = .ok ((r.take n).map fun i => .str (sg i)) H := by
        intro ρ
        have := lc_map (H := H) (g := fun (a : Nat) => E.int (a : Int)) (f := fun (a : Nat) => E.str (sg a)) (c := sYes) (e := b3_0.ev (Pn (k + 1))) (n := ⟨5, "a", ⟨36, 37, 36, 38⟩⟩) (ρ := some (.tup (nats row)) :: some (.int ((row.length - r.length : Nat) : Int)) :: some (.int (n : Int)) :: some (.tup (nats (r.take n))) :: none :: none :: ρ) (all := nats (r.take n)) (fun _ => rfl) (r.take n) [] (fun a ha => by
          have ha2 : a < 91 := by simpa using List.all_eq_true.mp h2 a ha
          have hs : subE H (.str AL) (.int (a : Int)) = some (.str (sg a)) := by
            show (if AL.length ≤ sizeLine then (L2.atI AC (a : Int)).map (fun c => E.str ⟨#[c]⟩) else none) = _
            have hac : a < AC.length := by rw [AC_len]; exact ha2
            rw [if_pos (by rw [AL_len]; exact le_line (by omega)), atI_nat (x := AC[a]) (List.getElem?_eq_getElem hac)]
            show some (E.str ⟨#[AC[a]]⟩) = some (E.str ⟨#[AC.getD a 0]⟩)
            rw [List.getD_eq_getElem?_getD, List.getElem?_eq_getElem hac]
            rfl
          simp -implicitDefEqProofs only [Stms.ev, Stm.ev, Ex.ev, Ex.evT, Exs.ev, Exs.evAnd, Exs.evOr, Exs.evTAnd, Exs.evTOr, Ox.ev, Ox.evT, Lx.ev, It.ev, v_c, v_bin, v_cmp, v_bl, v_isN, v_ntN, v_not, v_tru, v_asB, v_and, v_or, v_if, v_tup, v_nil, v_cons, v_sub, v_onone, v_osome, v_slice, v_call, v_glb, v_ofE, v_disp, v_cat, v_bi1, v_biL, v_isi, v_inS, v_sidx, v_join, v_subL, v_new, v_dct, v_lenSet, v_yes, v_itL, v_itA, v_itR1, v_itR2, v_lc, q_v_asg, q_v_par, q_v_setD, q_v_expr, q_v_app, q_v_if, q_v_for, q_v_ret, o_add, o_sub, c_lt, c_le, c_gt, c_ge, a_add, R.bind_ok, R.bind_ex, R.bind_bad, R.st_ok, R.st_ex, R.st_bad, RS.seq_nx, RS.seq_rt, RS.seq_ex, RS.seq_bk, RS.seq_ct, RS.seq_bad, optR_some, optR_none, Tg.set, setAll, asB, Lt.truthy, isNon, biLE, getL_tmp, getM_tmp, Option.isSome_some, reduceIte, if_true, if_false, Bool.false_eq_true, Option.map_some, w0, w1, w2, w3, w4, w5, w6, w7, w8, w9, w10, w11, w12, w13, w14, w15, w16, w17, w18, w19, w20, w21, w22, w23, w24, x0, x1, x2, x3, x4, x5, x6, x7, x8, x9, x10, x11, x12, x13, x14, x15, x16, x17, x18, x19, x20, x21, x22, x23, x24, z0, z1, z2, z3, z4, z5, z6, z7, z8, z9, z10, z11, z12, z13, z14, z15, z16, z17, z18, z19, z20, z21, z22, z23, z24, y0, y1, y2, y3, y4, y5, y6, y7, y8, y9, y10, y11, y12, y13, y14, y15, y16, y17, y18, y19, y20, y21, y22, y23, y24, b3_0, glb0, hs]) (by simp; omega)
        exact this
      have hj := joinE_sg (l := r.take n) (by rw [List.length_take]; omega)
      rw [show Str.empty = ("" : Str) by decide +kernel] at hj
      have e : ∃ v, b3.ev (Pn (k + 1)) [some (.tup (nats row)), some (.int (at0 : Int)), none, none, none, none] H = .rt v H ∧ v = .tup [.str (txt (r.take n)), .int ((row.length - (r.drop n).length : Nat) : Int)] := by
        refine ⟨.tup [.str (txt (r.take n)), .int (((row.length - r.length : Nat) : Int) + (n : Int))], ?_, ?_⟩
        · simp -implicitDefEqProofs only [Stms.ev, Stm.ev, Ex.ev, Ex.evT, Exs.ev, Exs.evAnd, Exs.evOr, Exs.evTAnd, Exs.evTOr, Ox.ev, Ox.evT, Lx.ev, It.ev, v_c, v_bin, v_cmp, v_bl, v_isN, v_ntN, v_not, v_tru, v_asB, v_and, v_or, v_if, v_tup, v_nil, v_cons, v_sub, v_onone, v_osome, v_slice, v_call, v_glb, v_ofE, v_disp, v_cat, v_bi1, v_biL, v_isi, v_inS, v_sidx, v_join, v_subL, v_new, v_dct, v_lenSet, v_yes, v_itL, v_itA, v_itR1, v_itR2, v_lc, q_v_asg, q_v_par, q_v_setD, q_v_expr, q_v_app, q_v_if, q_v_for, q_v_ret, o_add, o_sub, c_lt, c_le, c_gt, c_ge, a_add, R.bind_ok, R.bind_ex, R.bind_bad, R.st_ok, R.st_ex, R.st_bad, RS.seq_nx, RS.seq_rt, RS.seq_ex, RS.seq_bk, RS.seq_ct, RS.seq_bad, optR_some, optR_none, Tg.set, setAll, asB, Lt.truthy, isNon, biLE, getL_tmp, getM_tmp, Option.isSome_some, reduceIte, if_true, if_false, Bool.false_eq_true, Option.map_some, w0, w1, w2, w3, w4, w5, w6, w7, w8, w9, w10, w11, w12, w13, w14, w15, w16, w17, w18, w19, w20, w21, w22, w23, w24, x0, x1, x2, x3, x4, x5, x6, x7, x8, x9, x10, x11, x12, x13, x14, x15, x16, x17, x18, x19, x20, x21, x22, x23, x24, z0, z1, z2, z3, z4, z5, z6, z7, z8, z9, z10, z11, z12, z13, z14, z15, z16, z17, z18, z19, z20, z21, z22, z23, z24, y0, y1, y2, y3, y4, y5, y6, y7, y8, y9, y10, y11, y12, y13, y14, y15, y16, y17, y18, y19, y20, y21, y22, y23, y24, b3, hcl, hcut, hlen, bi1E, hlt, itE, wipeR, List.map_cons, List.map_nil, hall, asBs_map, all_id, h2, Bool.not_true, hget, h4, hj]
        · have : ((row.length - r.length : Nat) : Int) + (n : Int) = ((row.length - (r.drop n).length : Nat) : Int) := by
            rw [List.length_drop]
            rw [List.length_take] at h1
            omega
          rw [this]
      obtain ⟨v, e, rfl⟩ := e
      rw [e]
      exact endR_rt0 rfl
end K01
end
section
set_option Elab.async false
set_option linter.all false
set_option maxRecDepth 100000
set_option maxHeartbeats 1000000
/-! k01: things, bytes_of. -/
namespace K01
open PySem Lt
inductive Th where
  | non
  | num (n : Nat)
  | str (l : List Nat)
  | tup (xs : List Th)
mutual
def Th.e : Th → E
  | .non => .non
  | .num n => .int (n : Int)
  | .str l => .str (txt l)
  | .tup xs => .tup (Th.es xs)
def Th.es : List Th → List E
  | [] => []
  | x :: r => x.e :: Th.es r
end
mutual
def enc : Th → List Nat
  | .non => [0]
  | .num n => 1 :: num n
  | .str l => 2 :: (num l.length ++ l)
  | .tup xs => 3 :: (num xs.length ++ encs xs)
def encs : List Th → List Nat
  | [] => []
  | x :: r => enc x ++ encs r
end
mutual
/-- how deep: a leaf 1 -/
def Th.dep : Th → Nat
  | .tup xs => Th.deps xs + 1
  | _ => 1
def Th.deps : List Th → Nat
  | [] => 0
  | x :: r => max x.dep (Th.deps r)
end
mutual
/-- within the bounds that are looked at -/
def Th.fit : Th → Prop
  | .non => True
  | .num n => n < 128 ^ 9
  | .str l => l.length ≤ 1000 ∧ ∀ i ∈ l, i < 91
  | .tup xs => xs.length ≤ 1000 ∧ Th.fits xs
def Th.fits : List Th → Prop
  | [] => True
  | x :: r => x.fit ∧ Th.fits r
end
theorem es_len : ∀ xs : List Th, (Th.es xs).length = xs.length
  | [] => rfl
  | x :: r => by
    show (x.e :: Th.es r).length = _
    rw [List.length_cons, es_len r, List.length_cons]
theorem num_len {n : Nat} (h : n < 128 ^ 9) : (num n).length ≤ 9 := by
  unfold num
  rw [List.length_append]
  have := numI_len 8 n h
  simp; omega
theorem small9 {n : Nat} (h : n ≤ 1000000) : n < 128 ^ 9 := by omega
theorem small100 {n : Nat} (h : n < 128 ^ 9) : n < 128 ^ 100 := Nat.lt_of_lt_of_le h (Nat.pow_le_pow_right (by omega) (by omega))
theorem encs_len : ∀ xs : List Th, (encs xs).length = (xs.map fun x => (enc x).length).sum
  | [] => rfl
  | x :: r => by
    show (enc x ++ encs r).length = _
    rw [List.length_append, encs_len r]
    rfl
/-- the turn of bytes_of's loop -/
theorem bytes_turn {k left : Nat} {x th : E} {H : Hq} {f c : List Nat} {v : Option E} (hc : (Pn k).cl 5 [x, .int ((left : Int) - 1)] H = .ok (.tup (nats c)) H) (hl : f.length + c.length ≤ 16777216) :
    b5_0.ev (Pn k) [some th, some (.int (left : Int)), some (.tup (nats f)), some x] H = .nx [some th, some (.int (left : Int)), some (.tup (nats (f ++ c))), some x] H := by
  simp -implicitDefEqProofs only [Stms.ev, Stm.ev, Ex.ev, Ex.evT, Exs.ev, Exs.evAnd, Exs.evOr, Exs.evTAnd, Exs.evTOr, Ox.ev, Ox.evT, Lx.ev, It.ev, v_c, v_bin, v_cmp, v_bl, v_isN, v_ntN, v_not, v_tru, v_asB, v_and, v_or, v_if, v_tup, v_nil, v_cons, v_sub, v_onone, v_osome, v_slice, v_call, v_glb, v_ofE, v_disp, v_cat, v_bi1, v_biL, v_isi, v_inS, v_sidx, v_join, v_subL, v_new, v_dct, v_lenSet, v_yes, v_itL, v_itA, v_itR1, v_itR2, v_lc, q_v_asg, q_v_par, q_v_setD, q_v_expr, q_v_app, q_v_if, q_v_for, q_v_ret, o_add, o_sub, c_lt, c_le, c_gt, c_ge, a_add, R.bind_ok, R.bind_ex, R.bind_bad, R.st_ok, R.st_ex, R.st_bad, RS.seq_nx, RS.seq_rt, RS.seq_ex, RS.seq_bk, RS.seq_ct, RS.seq_bad, optR_some, optR_none, Tg.set, setAll, asB, Lt.truthy, isNon, biLE, getL_tmp, getM_tmp, Option.isSome_some, reduceIte, if_true, if_false, Bool.false_eq_true, Option.map_some, w0, w1, w2, w3, w4, w5, w6, w7, w8, w9, w10, w11, w12, w13, w14, w15, w16, w17, w18, w19, w20, w21, w22, w23, w24, x0, x1, x2, x3, x4, x5, x6, x7, x8, x9, x10, x11, x12, x13, x14, x15, x16, x17, x18, x19, x20, x21, x22, x23, x24, z0, z1, z2, z3, z4, z5, z6, z7, z8, z9, z10, z11, z12, z13, z14, z15, z16, z17, z18, z19, z20, z21, z22, z23, z24, y0, y1, y2, y3, y4, y5, y6, y7, y8, y9, y10, y11, y12, y13, y14, y15, y16, y17, y18, y19, y20, y21, y22, y23, y24, b5_0, hc, o_addT (show (nats f).length + (nats c).length ≤ 16777216 by rw [nats_len, nats_len]; exact hl), ← nats_app]
theorem isi_s (l : List Nat) : isiE .str (.str (txt l)) = some true := rfl
theorem bytes_loop {k left : Nat} {th : E} {H : Hq} {all : List E} : ∀ (xs : List Th) (f : List Nat) (v : Option E), (∀ x ∈ xs, (Pn k).cl 5 [x.e, .int ((left : Int) - 1)] H = .ok (.tup (nats (enc x))) H) → f.length + (encs xs).length ≤ 16777216 →
    ∃ v', forS none all (.name ⟨3, "part", ⟨48, 12, 48, 16⟩⟩) (b5_0.ev (Pn k)) (Th.es xs) [some th, some (.int (left : Int)), some (.tup (nats f)), v] H = .nx [some th, some (.int (left : Int)), some (.tup (nats (f ++ encs xs))), v'] H
  | [], f, v, _, _ => ⟨v, by
    show forS none all _ _ [] _ H = _
    rw [for_end rfl]
    show _ = RS.nx [some th, some (.int (left : Int)), some (.tup (nats (f ++ []))), v] H
    rw [List.append_nil]⟩
  | x :: r, f, v, hx, hl => by
    have hl2 : (encs (x :: r)).length = (enc x).length + (encs r).length := by
      show (enc x ++ encs r).length = _
      rw [List.length_append]
    have hxx := hx x List.mem_cons_self
    obtain ⟨v', h⟩ := bytes_loop (k := k) (left := left) (th := th) (H := H) (all := all) r (f ++ enc x) (some x.e) (fun y hy => hx y (List.mem_cons_of_mem _ hy)) (by rw [List.length_append]; omega)
    refine ⟨v', ?_⟩
    show forS none all _ _ (x.e :: Th.es r) _ H = _
    rw [for_nx rfl rfl (bytes_turn (v := v) hxx (by omega)), h, List.append_assoc]
    rfl
theorem cmp_lt {left : Nat} (h : 1 ≤ left) : decide ((left : Int) < 1) = false := decide_eq_false (by omega)
theorem dep_mem : ∀ {xs : List Th} {x : Th}, x ∈ xs → x.dep ≤ Th.deps xs
  | y :: r, x, h => by
    show x.dep ≤ max y.dep (Th.deps r)
    rcases List.mem_cons.mp h with e | h
    · subst e; exact Nat.le_max_left _ _
    · exact Nat.le_trans (dep_mem h) (Nat.le_max_right _ _)
theorem fit_mem : ∀ {xs : List Th} {x : Th}, Th.fits xs → x ∈ xs → x.fit
  | y :: r, x, hf, h => by
    have hf : y.fit ∧ Th.fits r := hf
    rcases List.mem_cons.mp h with e | h
    · subst e; exact hf.1
    · exact fit_mem hf.2 h
theorem enc_mem : ∀ {xs : List Th} {x : Th}, x ∈ xs → (enc x).length ≤ (encs xs).length
  | y :: r, x, h => by
    show _ ≤ (enc y ++ encs r).length
    rw [List.length_append]
    rcases List.mem_cons.mp h with e | h
    · subst e; omega
    · have := enc_mem h; omega
/-- a thing's bytes, if it is not too deep -/
theorem bytes_of_ok : ∀ (d : Nat) (th : Th) (left k : Nat) (H : Hq), th.dep ≤ d → th.dep ≤ left → d + 2 ≤ k → th.fit → (enc th).length ≤ 16000000 → cl (k + 1) 5 [th.e, .int (left : Int)] H = .ok (.tup (nats (enc th))) H
  | 0, th, left, k, H, h, _, _, _, _ => by
    have : 1 ≤ th.dep := by cases th <;> (show (1 : Nat) ≤ _; unfold Th.dep; omega)
    omega
  | d + 1, th, left, k, H, h, hleft, hk, hf, hlen => by
    have h1 : 1 ≤ th.dep := by cases th <;> (show (1 : Nat) ≤ _; unfold Th.dep; omega)
    have c0 := cmp_lt (left := left) (by omega)
    rw [cl_succ (fn := f5) rfl rfl]
    show endR true H (b5.ev (Pn k) [some th.e, some (.int (left : Int)), none, none] H) = _
    have s1 : ∀ x : E, [x].length ≤ sizeLine := fun x => le_line (by simp)
    obtain ⟨k, rfl⟩ : ∃ k', k = k' + 1 := ⟨k - 1, by omega⟩
    cases th with
    | non =>
      have e : b5.ev (Pn (k + 1)) [some Th.non.e, some (.int (left : Int)), none, none] H = .rt (.tup (nats (enc .non))) H := by
        simp -implicitDefEqProofs only [Stms.ev, Stm.ev, Ex.ev, Ex.evT, Exs.ev, Exs.evAnd, Exs.evOr, Exs.evTAnd, Exs.evTOr, Ox.ev, Ox.evT, Lx.ev, It.ev, v_c, v_bin, v_cmp, v_bl, v_isN, v_ntN, v_not, v_tru, v_asB, v_and, v_or, v_if, v_tup, v_nil, v_cons, v_sub, v_onone, v_osome, v_slice, v_call, v_glb, v_ofE, v_disp, v_cat, v_bi1, v_biL, v_isi, v_inS, v_sidx, v_join, v_subL, v_new, v_dct, v_lenSet, v_yes, v_itL, v_itA, v_itR1, v_itR2, v_lc, q_v_asg, q_v_par, q_v_setD, q_v_expr, q_v_app, q_v_if, q_v_for, q_v_ret, o_add, o_sub, c_lt, c_le, c_gt, c_ge, a_add, R.bind_ok, R.bind_ex, R.bind_bad, R.st_ok, R.st_ex, R.st_bad, RS.seq_nx, RS.seq_rt, RS.seq_ex, RS.seq_bk, RS.seq_ct, RS.seq_bad, optR_some, optR_none, Tg.set, setAll, asB, Lt.truthy, isNon, biLE, getL_tmp, getM_tmp, Option.isSome_some, reduceIte, if_true, if_false, Bool.false_eq_true, Option.map_some, w0, w1, w2, w3, w4, w5, w6, w7, w8, w9, w10, w11, w12, w13, w14, w15, w16, w17, w18, w19, w20, w21, w22, w23, w24, x0, x1, x2, x3, x4, x5, x6, x7, x8, x9, x10, x11, x12, x13, x14, x15, x16, x17, x18, x19, x20, x21, x22, x23, x24, z0, z1, z2, z3, z4, z5, z6, z7, z8, z9, z10, z11, z12, z13, z14, z15, z16, z17, z18, z19, z20, z21, z22, z23, z24, y0, y1, y2, y3, y4, y5, y6, y7, y8, y9, y10, y11, y12, y13, y14, y15, y16, y17, y18, y19, y20, y21, y22, y23, y24, b5, Th.e, c0, s1, enc, nats_cons]
        rfl
      rw [e]; exact endR_rt0 (dat_nats _)
    | num n =>
      have hcl := put_number_ok (k := k) (H := H) (small100 hf)
      rw [← par_cl] at hcl
      have t1 : isiE .str (.int (n : Int)) = some false := rfl
      have t2 : isiE .tup (.int (n : Int)) = some false := rfl
      have hl : (enc (.num n)).length = 1 + (num n).length := by
        show (1 :: num n).length = _
        rw [List.length_cons]; omega
      have e : b5.ev (Pn (k + 1)) [some (Th.num n).e, some (.int (left : Int)), none, none] H = .rt (.tup (nats (enc (.num n)))) H := by
        simp -implicitDefEqProofs only [Stms.ev, Stm.ev, Ex.ev, Ex.evT, Exs.ev, Exs.evAnd, Exs.evOr, Exs.evTAnd, Exs.evTOr, Ox.ev, Ox.evT, Lx.ev, It.ev, v_c, v_bin, v_cmp, v_bl, v_isN, v_ntN, v_not, v_tru, v_asB, v_and, v_or, v_if, v_tup, v_nil, v_cons, v_sub, v_onone, v_osome, v_slice, v_call, v_glb, v_ofE, v_disp, v_cat, v_bi1, v_biL, v_isi, v_inS, v_sidx, v_join, v_subL, v_new, v_dct, v_lenSet, v_yes, v_itL, v_itA, v_itR1, v_itR2, v_lc, q_v_asg, q_v_par, q_v_setD, q_v_expr, q_v_app, q_v_if, q_v_for, q_v_ret, o_add, o_sub, c_lt, c_le, c_gt, c_ge, a_add, R.bind_ok, R.bind_ex, R.bind_bad, R.st_ok, R.st_ex, R.st_bad, RS.seq_nx, RS.seq_rt, RS.seq_ex, RS.seq_bk, RS.seq_ct, RS.seq_bad, optR_some, optR_none, Tg.set, setAll, asB, Lt.truthy, isNon, biLE, getL_tmp, getM_tmp, Option.isSome_some, reduceIte, if_true, if_false, Bool.false_eq_true, Option.map_some, w0, w1, w2, w3, w4, w5, w6, w7, w8, w9, w10, w11, w12, w13, w14, w15, w16, w17, w18, w19, w20, w21, w22, w23, w24, x0, x1, x2, x3, x4, x5, x6, x7, x8, x9, x10, x11, x12, x13, x14, x15, x16, x17, x18, x19, x20, x21, x22, x23, x24, z0, z1, z2, z3, z4, z5, z6, z7, z8, z9, z10, z11, z12, z13, z14, z15, z16, z17, z18, z19, z20, z21, z22, z23, z24, y0, y1, y2, y3, y4, y5, y6, y7, y8, y9, y10, y11, y12, y13, y14, y15, y16, y17, y18, y19, y20, y21, y22, y23, y24, b5, Th.e, c0, s1, t1, t2, hcl, o_addT (show [E.int 1].length + (nats (num n)).length ≤ 16777216 by rw [nats_len]; simp; omega)]
        rfl
      rw [e]; exact endR_rt0 (dat_nats _)
    | str l =>
      obtain ⟨k, rfl⟩ : ∃ k', k = k' + 1 := ⟨k - 1, by omega⟩
      have hcl := put_text_ok (k := k) (H := H) hf.1 hf.2
      rw [← par_cl] at hcl
      have t1 : isiE .str (.str (txt l)) = some true := rfl
      have hl : (enc (.str l)).length = 1 + (num l.length ++ l).length := by
        show (2 :: (num l.length ++ l)).length = _
        rw [List.length_cons]; omega
      have e : b5.ev (Pn (k + 1 + 1)) [some (Th.str l).e, some (.int (left : Int)), none, none] H = .rt (.tup (nats (enc (.str l)))) H := by
        simp -implicitDefEqProofs only [Stms.ev, Stm.ev, Ex.ev, Ex.evT, Exs.ev, Exs.evAnd, Exs.evOr, Exs.evTAnd, Exs.evTOr, Ox.ev, Ox.evT, Lx.ev, It.ev, v_c, v_bin, v_cmp, v_bl, v_isN, v_ntN, v_not, v_tru, v_asB, v_and, v_or, v_if, v_tup, v_nil, v_cons, v_sub, v_onone, v_osome, v_slice, v_call, v_glb, v_ofE, v_disp, v_cat, v_bi1, v_biL, v_isi, v_inS, v_sidx, v_join, v_subL, v_new, v_dct, v_lenSet, v_yes, v_itL, v_itA, v_itR1, v_itR2, v_lc, q_v_asg, q_v_par, q_v_setD, q_v_expr, q_v_app, q_v_if, q_v_for, q_v_ret, o_add, o_sub, c_lt, c_le, c_gt, c_ge, a_add, R.bind_ok, R.bind_ex, R.bind_bad, R.st_ok, R.st_ex, R.st_bad, RS.seq_nx, RS.seq_rt, RS.seq_ex, RS.seq_bk, RS.seq_ct, RS.seq_bad, optR_some, optR_none, Tg.set, setAll, asB, Lt.truthy, isNon, biLE, getL_tmp, getM_tmp, Option.isSome_some, reduceIte, if_true, if_false, Bool.false_eq_true, Option.map_some, w0, w1, w2, w3, w4, w5, w6, w7, w8, w9, w10, w11, w12, w13, w14, w15, w16, w17, w18, w19, w20, w21, w22, w23, w24, x0, x1, x2, x3, x4, x5, x6, x7, x8, x9, x10, x11, x12, x13, x14, x15, x16, x17, x18, x19, x20, x21, x22, x23, x24, z0, z1, z2, z3, z4, z5, z6, z7, z8, z9, z10, z11, z12, z13, z14, z15, z16, z17, z18, z19, z20, z21, z22, z23, z24, y0, y1, y2, y3, y4, y5, y6, y7, y8, y9, y10, y11, y12, y13, y14, y15, y16, y17, y18, y19, y20, y21, y22, y23, y24, b5, Th.e, c0, s1, t1, hcl, o_addT (show [E.int 2].length + (nats (num l.length ++ l)).length ≤ 16777216 by rw [nats_len]; simp at *; omega)]
        rfl
      rw [e]; exact endR_rt0 (dat_nats _)
    | tup xs =>
      have hcl := put_number_ok (k := k) (n := xs.length) (H := H) (small100 (small9 (by have := hf.1; omega)))
      rw [← par_cl] at hcl
      have t1 : isiE .str (.tup (Th.es xs)) = some false := rfl
      have t2 : isiE .tup (.tup (Th.es xs)) = some true := rfl
      have hl : (enc (.tup xs)).length = 1 + (num xs.length).length + (encs xs).length := by
        show (3 :: (num xs.length ++ encs xs)).length = _
        rw [List.length_cons, List.length_append]; omega
      have hlen2 : lenE H (.tup (Th.es xs)) = some xs.length := by show some (Th.es xs).length = _; rw [es_len]
      have hd : Th.deps xs ≤ d := by have : Th.deps xs + 1 ≤ d + 1 := h; omega
      have hdl : Th.deps xs + 1 ≤ left := hleft
      have hmem : ∀ x ∈ xs, (Pn (k + 1)).cl 5 [x.e, .int ((left : Int) - 1)] H = .ok (.tup (nats (enc x))) H := by
        intro x hx
        have g1 : x.dep ≤ Th.deps xs := dep_mem hx
        have g2 : x.fit := fit_mem hf.2 hx
        have g3 : (enc x).length ≤ (encs xs).length := enc_mem hx
        rw [show ((left : Int) - 1) = ((left - 1 : Nat) : Int) by omega]
        exact bytes_of_ok d x (left - 1) k H (by omega) (by omega) (by omega) g2 (by omega)
      obtain ⟨v', hlp⟩ := bytes_loop (k := k + 1) (left := left) (th := .tup (Th.es xs)) (H := H) (all := Th.es xs) xs (3 :: num xs.length) none hmem (by rw [List.length_cons]; omega)
      have e : b5.ev (Pn (k + 1)) [some (Th.tup xs).e, some (.int (left : Int)), none, none] H = .rt (.tup (nats (enc (.tup xs)))) H := by
        have hf3 : [E.int 3] ++ nats (num xs.length) = nats (3 :: num xs.length) := rfl
        simp -implicitDefEqProofs only [Stms.ev, Stm.ev, Ex.ev, Ex.evT, Exs.ev, Exs.evAnd, Exs.evOr, Exs.evTAnd, Exs.evTOr, Ox.ev, Ox.evT, Lx.ev, It.ev, v_c, v_bin, v_cmp, v_bl, v_isN, v_ntN, v_not, v_tru, v_asB, v_and, v_or, v_if, v_tup, v_nil, v_cons, v_sub, v_onone, v_osome, v_slice, v_call, v_glb, v_ofE, v_disp, v_cat, v_bi1, v_biL, v_isi, v_inS, v_sidx, v_join, v_subL, v_new, v_dct, v_lenSet, v_yes, v_itL, v_itA, v_itR1, v_itR2, v_lc, q_v_asg, q_v_par, q_v_setD, q_v_expr, q_v_app, q_v_if, q_v_for, q_v_ret, o_add, o_sub, c_lt, c_le, c_gt, c_ge, a_add, R.bind_ok, R.bind_ex, R.bind_bad, R.st_ok, R.st_ex, R.st_bad, RS.seq_nx, RS.seq_rt, RS.seq_ex, RS.seq_bk, RS.seq_ct, RS.seq_bad, optR_some, optR_none, Tg.set, setAll, asB, Lt.truthy, isNon, biLE, getL_tmp, getM_tmp, Option.isSome_some, reduceIte, if_true, if_false, Bool.false_eq_true, Option.map_some, w0, w1, w2, w3, w4, w5, w6, w7, w8, w9, w10, w11, w12, w13, w14, w15, w16, w17, w18, w19, w20, w21, w22, w23, w24, x0, x1, x2, x3, x4, x5, x6, x7, x8, x9, x10, x11, x12, x13, x14, x15, x16, x17, x18, x19, x20, x21, x22, x23, x24, z0, z1, z2, z3, z4, z5, z6, z7, z8, z9, z10, z11, z12, z13, z14, z15, z16, z17, z18, z19, z20, z21, z22, z23, z24, y0, y1, y2, y3, y4, y5, y6, y7, y8, y9, y10, y11, y12, y13, y14, y15, y16, y17, y18, y19, y20, y21, y22, y23, y24, b5, Th.e, c0, s1, t1, t2, hlen2, bi1E, hcl, o_addT (show [E.int 3].length + (nats (num xs.length)).length ≤ 16777216 by rw [nats_len]; simp; omega), hf3, itE, hlp]
        rfl
      rw [e]; exact endR_rt0 (dat_nats _)
end K01
end
section
set_option Elab.async false
set_option linter.all false
set_option maxRecDepth 100000
set_option maxHeartbeats 1000000
/-! k01: thing_at. -/
namespace K01
open PySem Lt
/-- so many things, one after another -/
def rep (f : List Nat → Option (Th × List Nat)) : Nat → List Nat → Option (List Th × List Nat)
  | 0, l => some ([], l)
  | n + 1, l => match f l with
    | none => none
    | some (x, r) => match rep f n r with
      | none => none
      | some (xs, r2) => some (x :: xs, r2)
/-- a thing's bytes taken off -/
def dec : Nat → List Nat → Option (Th × List Nat)
  | 0, _ => none
  | left + 1, l => match l with
    | [] => none
    | m :: r => if m = 0 then some (.non, r) else if m = 1 then (dnum r).map fun p => (.num p.1, p.2) else if m = 2 then (dtxt r).map fun p => (.str p.1, p.2) else if m = 3 then (match dnum r with
      | none => none
      | some (n, r2) => (rep (dec left) n r2).map fun p => (.tup p.1, p.2)) else none
theorem dnum_len {l : List Nat} {v : Nat} {r : List Nat} (h : dnum l = some (v, r)) : r.length < l.length := dgo_len h
theorem dtxt_len {l x r : List Nat} (h : dtxt l = some (x, r)) : r.length < l.length := by
  unfold dtxt at h
  split at h
  · cases h
  · rename_i n r2 hd
    split at h
    · cases h
    · cases h
      have := dnum_len hd
      rw [List.length_drop]; omega
theorem dtxt_suffix {l x r : List Nat} (h : dtxt l = some (x, r)) : ∃ p, l = p ++ r := by
  unfold dtxt at h
  split at h
  · cases h
  · rename_i n r2 hd
    split at h
    · cases h
    · cases h
      obtain ⟨p, rfl⟩ := dgo_suffix hd
      exact ⟨p ++ r2.take n, by rw [List.append_assoc, List.take_append_drop]⟩
theorem rep_suffix {f : List Nat → Option (Th × List Nat)} (hf : ∀ l x r, f l = some (x, r) → (∃ p, l = p ++ r) ∧ r.length < l.length) : ∀ {n : Nat} {l : List Nat} {xs : List Th} {r : List Nat}, rep f n l = some (xs, r) → (∃ p, l = p ++ r) ∧ r.length + xs.length ≤ l.length
  | 0, l, xs, r, h => by cases h; exact ⟨⟨[], rfl⟩, Nat.le_refl _⟩
  | n + 1, l, xs, r, h => by
    unfold rep at h
    cases q1 : f l with
    | none => rw [q1] at h; cases h
    | some p1 =>
      obtain ⟨x, r1⟩ := p1
      rw [q1] at h
      simp only at h
      cases q2 : rep f n r1 with
      | none => rw [q2] at h; cases h
      | some p2 =>
        obtain ⟨ys, r2⟩ := p2
        rw [q2] at h
        cases h
        obtain ⟨⟨p, rfl⟩, hl⟩ := hf _ _ _ q1
        obtain ⟨⟨p', rfl⟩, hl2⟩ := rep_suffix hf q2
        refine ⟨⟨p ++ p', by rw [List.append_assoc]⟩, ?_⟩
        rw [List.length_cons]
        omega
theorem dec_suffix : ∀ {left : Nat} {l : List Nat} {x : Th} {r : List Nat}, dec left l = some (x, r) → (∃ p, l = p ++ r) ∧ r.length < l.length
  | 0, _, _, _, h => by cases h
  | left + 1, [], _, _, h => by unfold dec at h; cases h
  | left + 1, m :: l, x, r, h => by
    unfold dec at h
    simp only at h
    split at h
    · cases h; exact ⟨⟨[m], rfl⟩, by simp⟩
    · split at h
      · cases q : dnum l with
        | none => rw [q] at h; cases h
        | some p =>
          obtain ⟨n, r2⟩ := p
          rw [q] at h
          cases h
          obtain ⟨p, rfl⟩ := dgo_suffix q
          exact ⟨⟨m :: p, rfl⟩, by have := dnum_len q; simp at *; omega⟩
      · split at h
        · cases q : dtxt l with
          | none => rw [q] at h; cases h
          | some p =>
            obtain ⟨n, r2⟩ := p
            rw [q] at h
            cases h
            obtain ⟨p, rfl⟩ := dtxt_suffix q
            exact ⟨⟨m :: p, rfl⟩, by have := dtxt_len q; simp at *; omega⟩
        · split at h
          · cases q : dnum l with
            | none => rw [q] at h; cases h
            | some p =>
              obtain ⟨n, r2⟩ := p
              rw [q] at h
              simp only at h
              cases q2 : rep (dec left) n r2 with
              | none => rw [q2] at h; cases h
              | some p2 =>
                obtain ⟨xs, r3⟩ := p2
                rw [q2] at h
                cases h
                obtain ⟨p, rfl⟩ := dgo_suffix q
                obtain ⟨⟨p', rfl⟩, hl⟩ := rep_suffix (fun l x r => dec_suffix) q2
                have h1 := dnum_len q
                exact ⟨⟨m :: p ++ p', by simp⟩, by simp at *; omega⟩
          · cases h
/-- every number told in it is small -/
def Small (row : List Nat) : Prop := ∀ j v r, dnum (row.drop j) = some (v, r) → v < 2 ^ 62
/-- the turn of thing_at's loop -/
theorem thing_turn {k at0 at1 left : Nat} {row : List Nat} {x it : E} {H : Hq} {acc : List E} {mk sz : Option E} {v : Option E} (ha : acc.length < 1000000)
    (hc : (Pn k).cl 7 [.tup (nats row), .int (at0 : Int), .int ((left : Int) - 1)] (H ++ [.lst acc]) = .ok (.tup [x, .int (at1 : Int)]) (H ++ [.lst acc])) :
    b7_0.ev (Pn k) [some (.tup (nats row)), some (.int (at0 : Int)), some (.int (left : Int)), mk, sz, some (.ref H.length), some it, v] (H ++ [.lst acc]) = .nx [some (.tup (nats row)), some (.int (at1 : Int)), some (.int (left : Int)), mk, sz, some (.ref H.length), some it, some x] (H ++ [.lst (acc ++ [x])]) := by
  have hl : acc.length < sizeLine := by rw [sizeLine_eq]; omega
  simp -implicitDefEqProofs only [Stms.ev, Stm.ev, Ex.ev, Ex.evT, Exs.ev, Exs.evAnd, Exs.evOr, Exs.evTAnd, Exs.evTOr, Ox.ev, Ox.evT, Lx.ev, It.ev, v_c, v_bin, v_cmp, v_bl, v_isN, v_ntN, v_not, v_tru, v_asB, v_and, v_or, v_if, v_tup, v_nil, v_cons, v_sub, v_onone, v_osome, v_slice, v_call, v_glb, v_ofE, v_disp, v_cat, v_bi1, v_biL, v_isi, v_inS, v_sidx, v_join, v_subL, v_new, v_dct, v_lenSet, v_yes, v_itL, v_itA, v_itR1, v_itR2, v_lc, q_v_asg, q_v_par, q_v_setD, q_v_expr, q_v_app, q_v_if, q_v_for, q_v_ret, o_add, o_sub, c_lt, c_le, c_gt, c_ge, a_add, R.bind_ok, R.bind_ex, R.bind_bad, R.st_ok, R.st_ex, R.st_bad, RS.seq_nx, RS.seq_rt, RS.seq_ex, RS.seq_bk, RS.seq_ct, RS.seq_bad, optR_some, optR_none, Tg.set, setAll, asB, Lt.truthy, isNon, biLE, getL_tmp, getM_tmp, Option.isSome_some, reduceIte, if_true, if_false, Bool.false_eq_true, Option.map_some, w0, w1, w2, w3, w4, w5, w6, w7, w8, w9, w10, w11, w12, w13, w14, w15, w16, w17, w18, w19, w20, w21, w22, w23, w24, x0, x1, x2, x3, x4, x5, x6, x7, x8, x9, x10, x11, x12, x13, x14, x15, x16, x17, x18, x19, x20, x21, x22, x23, x24, z0, z1, z2, z3, z4, z5, z6, z7, z8, z9, z10, z11, z12, z13, z14, z15, z16, z17, z18, z19, z20, z21, z22, z23, z24, y0, y1, y2, y3, y4, y5, y6, y7, y8, y9, y10, y11, y12, y13, y14, y15, y16, y17, y18, y19, y20, y21, y22, y23, y24, b7_0, hc, getL_new, get_new, set_new, hl]
theorem thing_turnX {k at0 left : Nat} {row : List Nat} {it : E} {H J : Hq} {acc : List E} {mk sz : Option E} {v : Option E}
    (hc : (Pn k).cl 7 [.tup (nats row), .int (at0 : Int), .int ((left : Int) - 1)] (H ++ [.lst acc]) = .ex 0 J) :
    b7_0.ev (Pn k) [some (.tup (nats row)), some (.int (at0 : Int)), some (.int (left : Int)), mk, sz, some (.ref H.length), some it, v] (H ++ [.lst acc]) = .ex 0 [some (.tup (nats row)), some (.int (at0 : Int)), some (.int (left : Int)), mk, sz, some (.ref H.length), some it, v] J := by
  simp -implicitDefEqProofs only [Stms.ev, Stm.ev, Ex.ev, Ex.evT, Exs.ev, Exs.evAnd, Exs.evOr, Exs.evTAnd, Exs.evTOr, Ox.ev, Ox.evT, Lx.ev, It.ev, v_c, v_bin, v_cmp, v_bl, v_isN, v_ntN, v_not, v_tru, v_asB, v_and, v_or, v_if, v_tup, v_nil, v_cons, v_sub, v_onone, v_osome, v_slice, v_call, v_glb, v_ofE, v_disp, v_cat, v_bi1, v_biL, v_isi, v_inS, v_sidx, v_join, v_subL, v_new, v_dct, v_lenSet, v_yes, v_itL, v_itA, v_itR1, v_itR2, v_lc, q_v_asg, q_v_par, q_v_setD, q_v_expr, q_v_app, q_v_if, q_v_for, q_v_ret, o_add, o_sub, c_lt, c_le, c_gt, c_ge, a_add, R.bind_ok, R.bind_ex, R.bind_bad, R.st_ok, R.st_ex, R.st_bad, RS.seq_nx, RS.seq_rt, RS.seq_ex, RS.seq_bk, RS.seq_ct, RS.seq_bad, optR_some, optR_none, Tg.set, setAll, asB, Lt.truthy, isNon, biLE, getL_tmp, getM_tmp, Option.isSome_some, reduceIte, if_true, if_false, Bool.false_eq_true, Option.map_some, w0, w1, w2, w3, w4, w5, w6, w7, w8, w9, w10, w11, w12, w13, w14, w15, w16, w17, w18, w19, w20, w21, w22, w23, w24, x0, x1, x2, x3, x4, x5, x6, x7, x8, x9, x10, x11, x12, x13, x14, x15, x16, x17, x18, x19, x20, x21, x22, x23, x24, z0, z1, z2, z3, z4, z5, z6, z7, z8, z9, z10, z11, z12, z13, z14, z15, z16, z17, z18, z19, z20, z21, z22, z23, z24, y0, y1, y2, y3, y4, y5, y6, y7, y8, y9, y10, y11, y12, y13, y14, y15, y16, y17, y18, y19, y20, y21, y22, y23, y24, b7_0, hc]
/-- what a call for a thing answers -/
def tOut (row : List Nat) (H : Hq) (o : Option (Th × List Nat)) (r : Lt.R E) : Prop := match o with
  | some (x, l) => r = .ok (.tup [x.e, .int ((row.length - l.length : Nat) : Int)]) H
  | none => ∃ J, r = .ex 0 (H ++ J)
theorem es_app : ∀ (xs ys : List Th), Th.es (xs ++ ys) = Th.es xs ++ Th.es ys
  | [], ys => rfl
  | x :: r, ys => by
    show x.e :: Th.es (r ++ ys) = _
    rw [es_app r ys]
    rfl
theorem thing_loop {k left : Nat} {row : List Nat} {H : Hq} {all : List E} {mk sz : Option E} (hr : row.length ≤ 100000)
    (hc : ∀ (at0 : Nat) (J : Hq), at0 ≤ row.length → tOut row J (dec left (row.drop at0)) ((Pn k).cl 7 [.tup (nats row), .int (at0 : Int), .int (((left + 1 : Nat) : Int) - 1)] J)) :
    ∀ (its : List E) (at0 : Nat) (acc : List Th) (v w : Option E), at0 ≤ row.length → acc.length ≤ at0 →
    match rep (dec left) its.length (row.drop at0) with
    | some (xs, l) => ∃ v' w', forS none all (.name ⟨6, "_", ⟨70, 8, 70, 9⟩⟩) (b7_0.ev (Pn k)) its [some (.tup (nats row)), some (.int (at0 : Int)), some (.int ((left + 1 : Nat) : Int)), mk, sz, some (.ref H.length), v, w] (H ++ [.lst (Th.es acc)]) = .nx [some (.tup (nats row)), some (.int ((row.length - l.length : Nat) : Int)), some (.int ((left + 1 : Nat) : Int)), mk, sz, some (.ref H.length), v', w'] (H ++ [.lst (Th.es (acc ++ xs))])
    | none => ∃ ρ J, forS none all (.name ⟨6, "_", ⟨70, 8, 70, 9⟩⟩) (b7_0.ev (Pn k)) its [some (.tup (nats row)), some (.int (at0 : Int)), some (.int ((left + 1 : Nat) : Int)), mk, sz, some (.ref H.length), v, w] (H ++ [.lst (Th.es acc)]) = .ex 0 ρ (H ++ J)
  | [], at0, acc, v, w, h1, h2 => by
    have e : row.length - (row.drop at0).length = at0 := by rw [List.length_drop]; omega
    show ∃ v' w', _ = RS.nx [_, some (.int ((row.length - (row.drop at0).length : Nat) : Int)), _, _, _, _, v', w'] _
    rw [e, List.append_nil]
    exact ⟨v, w, for_end rfl⟩
  | it :: its, at0, acc, v, w, h1, h2 => by
    have h0 := hc at0 (H ++ [.lst (Th.es acc)]) h1
    show match (match dec left (row.drop at0) with | none => none | some (x, r) => match rep (dec left) its.length r with | none => none | some (xs, r2) => some (x :: xs, r2)) with | some (xs, l) => _ | none => _
    cases q1 : dec left (row.drop at0) with
    | none =>
      rw [q1] at h0
      obtain ⟨J, h0⟩ := h0
      rw [List.append_assoc] at h0
      exact ⟨_, _, for_ex rfl rfl (thing_turnX h0)⟩
    | some p =>
      obtain ⟨x, r⟩ := p
      rw [q1] at h0
      obtain ⟨⟨pre, hp⟩, hl⟩ := dec_suffix q1
      have hs := suffix_drop hp
      rw [List.length_drop] at hl
      have ha : (Th.es acc).length < 1000000 := by rw [es_len]; omega
      have ht := thing_turn (it := it) (mk := mk) (sz := sz) (v := w) ha h0
      have ih := thing_loop (mk := mk) (sz := sz) (all := all) (H := H) hr hc its (row.length - r.length) (acc ++ [x]) (some it) (some x.e) (by omega) (by rw [List.length_append]; simp; omega)
      rw [hs] at ih
      rw [es_app] at ih
      have hstep := for_nx (st := none) (all := all) (tg := .name ⟨6, "_", ⟨70, 8, 70, 9⟩⟩) (r := its) (x := it) (ρ := [some (.tup (nats row)), some (.int (at0 : Int)), some (.int ((left + 1 : Nat) : Int)), mk, sz, some (.ref H.length), v, w]) rfl rfl ht
      cases q2 : rep (dec left) its.length r with
      | none =>
        rw [q2] at ih
        obtain ⟨ρ, J, ih⟩ := ih
        simp only [q2]
        exact ⟨ρ, J, hstep.trans ih⟩
      | some p2 =>
        obtain ⟨xs, r2⟩ := p2
        rw [q2] at ih
        obtain ⟨v', w', ih⟩ := ih
        rw [List.append_assoc] at ih
        simp only [q2]
        exact ⟨v', w', hstep.trans ih⟩
theorem cmp_ge {a n : Nat} : decide ((a : Int) ≥ (n : Int)) = decide (n ≤ a) := by
  by_cases h : n ≤ a
  · rw [decide_eq_true h, decide_eq_true (by omega)]
  · rw [decide_eq_false h, decide_eq_false (by omega)]
theorem eqN {a : Nat} {b : Int} (h : (a : Int) = b) : cmpop .eq (.int (a : Int)) (.int b) = some true := by rw [c_eqI, decide_eq_true h]
theorem neN {a : Nat} {b : Int} (h : ¬ (a : Int) = b) : cmpop .eq (.int (a : Int)) (.int b) = some false := by rw [c_eqI, decide_eq_false h]
theorem tOut_pure {row : List Nat} {H : Hq} {o : Option (Th × List Nat)} {r : Lt.R E} (h : tOut row H o r) : tOut row H o r := h
theorem rng_len (n : Nat) : (rng 0 n).length = n := by simp [rng]
mutual
theorem dat_th : ∀ x : Th, x.e.dat.isSome = true
  | .non => rfl
  | .num n => rfl
  | .str l => rfl
  | .tup xs => by
    obtain ⟨ds, h⟩ := Option.isSome_iff_exists.mp (dats_th xs)
    show ((E.dats (Th.es xs)).map PyData.tuple).isSome = true
    rw [h]; rfl
theorem dats_th : ∀ xs : List Th, (E.dats (Th.es xs)).isSome = true
  | [] => rfl
  | x :: r => by
    obtain ⟨d, h1⟩ := Option.isSome_iff_exists.mp (dat_th x)
    obtain ⟨ds, h2⟩ := Option.isSome_iff_exists.mp (dats_th r)
    show (match x.e.dat, E.dats (Th.es r) with | some d, some ds => some (d :: ds) | _, _ => none).isSome = true
    rw [h1, h2]; rfl
end
theorem dat_pair (x : Th) (n : Int) : (E.tup [x.e, .int n]).dat.isSome = true := by
  obtain ⟨d, h⟩ := Option.isSome_iff_exists.mp (dat_th x)
  show ((match x.e.dat, E.dats [.int n] with | some d, some ds => some (d :: ds) | _, _ => none).map PyData.tuple).isSome = true
  rw [h]; rfl
/-- thing_at -/
theorem thing_at_ok : ∀ (left k at0 : Nat) (row : List Nat) (H : Hq), left + 2 ≤ k → row.length ≤ 100000 → at0 ≤ row.length → Small row → tOut row H (dec left (row.drop at0)) (cl (k + 1) 7 [.tup (nats row), .int (at0 : Int), .int (left : Int)] H)
  | 0, k, at0, row, H, hk, hr, ha, hs => by
    rw [cl_succ (fn := f7) rfl rfl]
    have e : b7.ev (Pn k) [some (.tup (nats row)), some (.int (at0 : Int)), some (.int ((0 : Nat) : Int)), none, none, none, none, none] H = .ex 0 [some (.tup (nats row)), some (.int (at0 : Int)), some (.int ((0 : Nat) : Int)), none, none, none, none, none] H := by
      have c : decide (((0 : Nat) : Int) < 1) = true := by decide
      simp -implicitDefEqProofs only [Stms.ev, Stm.ev, Ex.ev, Ex.evT, Exs.ev, Exs.evAnd, Exs.evOr, Exs.evTAnd, Exs.evTOr, Ox.ev, Ox.evT, Lx.ev, It.ev, v_c, v_bin, v_cmp, v_bl, v_isN, v_ntN, v_not, v_tru, v_asB, v_and, v_or, v_if, v_tup, v_nil, v_cons, v_sub, v_onone, v_osome, v_slice, v_call, v_glb, v_ofE, v_disp, v_cat, v_bi1, v_biL, v_isi, v_inS, v_sidx, v_join, v_subL, v_new, v_dct, v_lenSet, v_yes, v_itL, v_itA, v_itR1, v_itR2, v_lc, q_v_asg, q_v_par, q_v_setD, q_v_expr, q_v_app, q_v_if, q_v_for, q_v_ret, o_add, o_sub, c_lt, c_le, c_gt, c_ge, a_add, R.bind_ok, R.bind_ex, R.bind_bad, R.st_ok, R.st_ex, R.st_bad, RS.seq_nx, RS.seq_rt, RS.seq_ex, RS.seq_bk, RS.seq_ct, RS.seq_bad, optR_some, optR_none, Tg.set, setAll, asB, Lt.truthy, isNon, biLE, getL_tmp, getM_tmp, Option.isSome_some, reduceIte, if_true, if_false, Bool.false_eq_true, Option.map_some, w0, w1, w2, w3, w4, w5, w6, w7, w8, w9, w10, w11, w12, w13, w14, w15, w16, w17, w18, w19, w20, w21, w22, w23, w24, x0, x1, x2, x3, x4, x5, x6, x7, x8, x9, x10, x11, x12, x13, x14, x15, x16, x17, x18, x19, x20, x21, x22, x23, x24, z0, z1, z2, z3, z4, z5, z6, z7, z8, z9, z10, z11, z12, z13, z14, z15, z16, z17, z18, z19, z20, z21, z22, z23, z24, y0, y1, y2, y3, y4, y5, y6, y7, y8, y9, y10, y11, y12, y13, y14, y15, y16, y17, y18, y19, y20, y21, y22, y23, y24, b7, c]
    refine ⟨[], ?_⟩
    show endR true H (b7.ev (Pn k) [some (.tup (nats row)), some (.int (at0 : Int)), some (.int ((0 : Nat) : Int)), none, none, none, none, none] H) = _
    rw [e, List.append_nil]
    rfl
  | left + 1, k, at0, row, H, hk, hr, ha, hs => by
    obtain ⟨k, rfl⟩ : ∃ k', k = k' + 2 := ⟨k - 2, by omega⟩
    rw [cl_succ (fn := f7) rfl rfl]
    show tOut row H _ (endR true H (b7.ev (Pn (k + 2)) [some (.tup (nats row)), some (.int (at0 : Int)), some (.int ((left + 1 : Nat) : Int)), none, none, none, none, none] H))
    have c0 : decide (((left + 1 : Nat) : Int) < 1) = false := decide_eq_false (by omega)
    have hlen : lenE H (.tup (nats row)) = some row.length := by show some (nats row).length = _; rw [nats_len]
    have s2 : ∀ x y : E, [x, y].length ≤ sizeLine := fun x y => le_line (by simp)
    have s0 : ([] : List E).length ≤ sizeLine := le_line (by simp)
    cases hl : row.drop at0 with
    | nil =>
      have hge : row.length ≤ at0 := by have := congrArg List.length hl; rw [List.length_drop] at this; simp at this; omega
      have c1 : decide ((at0 : Int) ≥ (row.length : Int)) = true := by rw [cmp_ge, decide_eq_true hge]
      have e : b7.ev (Pn (k + 2)) [some (.tup (nats row)), some (.int (at0 : Int)), some (.int ((left + 1 : Nat) : Int)), none, none, none, none, none] H = .ex 0 [some (.tup (nats row)), some (.int (at0 : Int)), some (.int ((left + 1 : Nat) : Int)), none, none, none, none, none] H := by
        simp -implicitDefEqProofs only [Stms.ev, Stm.ev, Ex.ev, Ex.evT, Exs.ev, Exs.evAnd, Exs.evOr, Exs.evTAnd, Exs.evTOr, Ox.ev, Ox.evT, Lx.ev, It.ev, v_c, v_bin, v_cmp, v_bl, v_isN, v_ntN, v_not, v_tru, v_asB, v_and, v_or, v_if, v_tup, v_nil, v_cons, v_sub, v_onone, v_osome, v_slice, v_call, v_glb, v_ofE, v_disp, v_cat, v_bi1, v_biL, v_isi, v_inS, v_sidx, v_join, v_subL, v_new, v_dct, v_lenSet, v_yes, v_itL, v_itA, v_itR1, v_itR2, v_lc, q_v_asg, q_v_par, q_v_setD, q_v_expr, q_v_app, q_v_if, q_v_for, q_v_ret, o_add, o_sub, c_lt, c_le, c_gt, c_ge, a_add, R.bind_ok, R.bind_ex, R.bind_bad, R.st_ok, R.st_ex, R.st_bad, RS.seq_nx, RS.seq_rt, RS.seq_ex, RS.seq_bk, RS.seq_ct, RS.seq_bad, optR_some, optR_none, Tg.set, setAll, asB, Lt.truthy, isNon, biLE, getL_tmp, getM_tmp, Option.isSome_some, reduceIte, if_true, if_false, Bool.false_eq_true, Option.map_some, w0, w1, w2, w3, w4, w5, w6, w7, w8, w9, w10, w11, w12, w13, w14, w15, w16, w17, w18, w19, w20, w21, w22, w23, w24, x0, x1, x2, x3, x4, x5, x6, x7, x8, x9, x10, x11, x12, x13, x14, x15, x16, x17, x18, x19, x20, x21, x22, x23, x24, z0, z1, z2, z3, z4, z5, z6, z7, z8, z9, z10, z11, z12, z13, z14, z15, z16, z17, z18, z19, z20, z21, z22, z23, z24, y0, y1, y2, y3, y4, y5, y6, y7, y8, y9, y10, y11, y12, y13, y14, y15, y16, y17, y18, y19, y20, y21, y22, y23, y24, b7, c0, hlen, bi1E, c1]
      rw [e]
      exact ⟨[], by rw [List.append_nil]; rfl⟩
    | cons m r =>
      obtain ⟨g1, g2, g3⟩ := drop_get hl
      have c1 : decide ((at0 : Int) ≥ (row.length : Int)) = false := by rw [cmp_ge, decide_eq_false (by omega)]
      have hsub := sub_nats (H := H) g1
      have hrl : r.length = row.length - (at0 + 1) := by rw [← g2, List.length_drop]
      have hcast : ((at0 : Int) + 1) = ((at0 + 1 : Nat) : Int) := by omega
      unfold dec
      simp only
      by_cases m0 : m = 0
      · rw [if_pos m0]
        have e0 := eqN (a := m) (b := 0) (by omega)
        have e : b7.ev (Pn (k + 2)) [some (.tup (nats row)), some (.int (at0 : Int)), some (.int ((left + 1 : Nat) : Int)), none, none, none, none, none] H = .rt (.tup [.non, .int ((at0 : Int) + 1)]) H := by
          simp -implicitDefEqProofs only [Stms.ev, Stm.ev, Ex.ev, Ex.evT, Exs.ev, Exs.evAnd, Exs.evOr, Exs.evTAnd, Exs.evTOr, Ox.ev, Ox.evT, Lx.ev, It.ev, v_c, v_bin, v_cmp, v_bl, v_isN, v_ntN, v_not, v_tru, v_asB, v_and, v_or, v_if, v_tup, v_nil, v_cons, v_sub, v_onone, v_osome, v_slice, v_call, v_glb, v_ofE, v_disp, v_cat, v_bi1, v_biL, v_isi, v_inS, v_sidx, v_join, v_subL, v_new, v_dct, v_lenSet, v_yes, v_itL, v_itA, v_itR1, v_itR2, v_lc, q_v_asg, q_v_par, q_v_setD, q_v_expr, q_v_app, q_v_if, q_v_for, q_v_ret, o_add, o_sub, c_lt, c_le, c_gt, c_ge, a_add, R.bind_ok, R.bind_ex, R.bind_bad, R.st_ok, R.st_ex, R.st_bad, RS.seq_nx, RS.seq_rt, RS.seq_ex, RS.seq_bk, RS.seq_ct, RS.seq_bad, optR_some, optR_none, Tg.set, setAll, asB, Lt.truthy, isNon, biLE, getL_tmp, getM_tmp, Option.isSome_some, reduceIte, if_true, if_false, Bool.false_eq_true, Option.map_some, w0, w1, w2, w3, w4, w5, w6, w7, w8, w9, w10, w11, w12, w13, w14, w15, w16, w17, w18, w19, w20, w21, w22, w23, w24, x0, x1, x2, x3, x4, x5, x6, x7, x8, x9, x10, x11, x12, x13, x14, x15, x16, x17, x18, x19, x20, x21, x22, x23, x24, z0, z1, z2, z3, z4, z5, z6, z7, z8, z9, z10, z11, z12, z13, z14, z15, z16, z17, z18, z19, z20, z21, z22, z23, z24, y0, y1, y2, y3, y4, y5, y6, y7, y8, y9, y10, y11, y12, y13, y14, y15, y16, y17, y18, y19, y20, y21, y22, y23, y24, b7, c0, hlen, bi1E, c1, hsub, e0, s2]
        rw [e]
        show endR true H (RS.rt (.tup [.non, .int ((at0 : Int) + 1)]) H) = .ok (.tup [.non, .int ((row.length - r.length : Nat) : Int)]) H
        rw [show ((row.length - r.length : Nat) : Int) = (at0 : Int) + 1 by omega]
        exact endR_rt0 rfl
      · rw [if_neg m0]
        have e0 := neN (a := m) (b := 0) (by omega)
        have hnum := take_number_ok (k := k + 1) (H := H) (row := row) (at0 := at0 + 1) (by omega) (by omega)
        rw [← par_cl, ← hcast, g2] at hnum
        by_cases m1 : m = 1
        · rw [if_pos m1]
          have e1 := eqN (a := m) (b := 1) (by omega)
          cases hd : dnum r with
          | none =>
            rw [hd] at hnum
            simp only at hnum
            have e : b7.ev (Pn (k + 2)) [some (.tup (nats row)), some (.int (at0 : Int)), some (.int ((left + 1 : Nat) : Int)), none, none, none, none, none] H = .ex 0 [some (.tup (nats row)), some (.int (at0 : Int)), some (.int ((left + 1 : Nat) : Int)), some (.int (m : Int)), none, none, none, none] H := by
              simp -implicitDefEqProofs only [Stms.ev, Stm.ev, Ex.ev, Ex.evT, Exs.ev, Exs.evAnd, Exs.evOr, Exs.evTAnd, Exs.evTOr, Ox.ev, Ox.evT, Lx.ev, It.ev, v_c, v_bin, v_cmp, v_bl, v_isN, v_ntN, v_not, v_tru, v_asB, v_and, v_or, v_if, v_tup, v_nil, v_cons, v_sub, v_onone, v_osome, v_slice, v_call, v_glb, v_ofE, v_disp, v_cat, v_bi1, v_biL, v_isi, v_inS, v_sidx, v_join, v_subL, v_new, v_dct, v_lenSet, v_yes, v_itL, v_itA, v_itR1, v_itR2, v_lc, q_v_asg, q_v_par, q_v_setD, q_v_expr, q_v_app, q_v_if, q_v_for, q_v_ret, o_add, o_sub, c_lt, c_le, c_gt, c_ge, a_add, R.bind_ok, R.bind_ex, R.bind_bad, R.st_ok, R.st_ex, R.st_bad, RS.seq_nx, RS.seq_rt, RS.seq_ex, RS.seq_bk, RS.seq_ct, RS.seq_bad, optR_some, optR_none, Tg.set, setAll, asB, Lt.truthy, isNon, biLE, getL_tmp, getM_tmp, Option.isSome_some, reduceIte, if_true, if_false, Bool.false_eq_true, Option.map_some, w0, w1, w2, w3, w4, w5, w6, w7, w8, w9, w10, w11, w12, w13, w14, w15, w16, w17, w18, w19, w20, w21, w22, w23, w24, x0, x1, x2, x3, x4, x5, x6, x7, x8, x9, x10, x11, x12, x13, x14, x15, x16, x17, x18, x19, x20, x21, x22, x23, x24, z0, z1, z2, z3, z4, z5, z6, z7, z8, z9, z10, z11, z12, z13, z14, z15, z16, z17, z18, z19, z20, z21, z22, z23, z24, y0, y1, y2, y3, y4, y5, y6, y7, y8, y9, y10, y11, y12, y13, y14, y15, y16, y17, y18, y19, y20, y21, y22, y23, y24, b7, c0, hlen, bi1E, c1, hsub, e0, e1, hnum]
            rw [e]
            exact ⟨[], by rw [List.append_nil]; rfl⟩
          | some p =>
            obtain ⟨n, l⟩ := p
            rw [hd] at hnum
            simp only at hnum
            have e : b7.ev (Pn (k + 2)) [some (.tup (nats row)), some (.int (at0 : Int)), some (.int ((left + 1 : Nat) : Int)), none, none, none, none, none] H = .rt (.tup [.int (n : Int), .int ((row.length - l.length : Nat) : Int)]) H := by
              simp -implicitDefEqProofs only [Stms.ev, Stm.ev, Ex.ev, Ex.evT, Exs.ev, Exs.evAnd, Exs.evOr, Exs.evTAnd, Exs.evTOr, Ox.ev, Ox.evT, Lx.ev, It.ev, v_c, v_bin, v_cmp, v_bl, v_isN, v_ntN, v_not, v_tru, v_asB, v_and, v_or, v_if, v_tup, v_nil, v_cons, v_sub, v_onone, v_osome, v_slice, v_call, v_glb, v_ofE, v_disp, v_cat, v_bi1, v_biL, v_isi, v_inS, v_sidx, v_join, v_subL, v_new, v_dct, v_lenSet, v_yes, v_itL, v_itA, v_itR1, v_itR2, v_lc, q_v_asg, q_v_par, q_v_setD, q_v_expr, q_v_app, q_v_if, q_v_for, q_v_ret, o_add, o_sub, c_lt, c_le, c_gt, c_ge, a_add, R.bind_ok, R.bind_ex, R.bind_bad, R.st_ok, R.st_ex, R.st_bad, RS.seq_nx, RS.seq_rt, RS.seq_ex, RS.seq_bk, RS.seq_ct, RS.seq_bad, optR_some, optR_none, Tg.set, setAll, asB, Lt.truthy, isNon, biLE, getL_tmp, getM_tmp, Option.isSome_some, reduceIte, if_true, if_false, Bool.false_eq_true, Option.map_some, w0, w1, w2, w3, w4, w5, w6, w7, w8, w9, w10, w11, w12, w13, w14, w15, w16, w17, w18, w19, w20, w21, w22, w23, w24, x0, x1, x2, x3, x4, x5, x6, x7, x8, x9, x10, x11, x12, x13, x14, x15, x16, x17, x18, x19, x20, x21, x22, x23, x24, z0, z1, z2, z3, z4, z5, z6, z7, z8, z9, z10, z11, z12, z13, z14, z15, z16, z17, z18, z19, z20, z21, z22, z23, z24, y0, y1, y2, y3, y4, y5, y6, y7, y8, y9, y10, y11, y12, y13, y14, y15, y16, y17, y18, y19, y20, y21, y22, y23, y24, b7, c0, hlen, bi1E, c1, hsub, e0, e1, hnum]
            rw [e]
            exact endR_rt0 rfl
        · rw [if_neg m1]
          have e1 := neN (a := m) (b := 1) (by omega)
          by_cases m2 : m = 2
          · rw [if_pos m2]
            have e2 := eqN (a := m) (b := 2) (by omega)
            have htx := take_text_ok (k := k) (H := H) (row := row) (at0 := at0 + 1) hr (by omega)
            rw [← par_cl, ← hcast, g2] at htx
            cases hd : dtxt r with
            | none =>
              rw [hd] at htx
              simp only at htx
              have e : b7.ev (Pn (k + 2)) [some (.tup (nats row)), some (.int (at0 : Int)), some (.int ((left + 1 : Nat) : Int)), none, none, none, none, none] H = .ex 0 [some (.tup (nats row)), some (.int (at0 : Int)), some (.int ((left + 1 : Nat) : Int)), some (.int (m : Int)), none, none, none, none] H := by
                simp -implicitDefEqProofs only [Stms.ev, Stm.ev, Ex.ev, Ex.evT, Exs.ev, Exs.evAnd, Exs.evOr, Exs.evTAnd, Exs.evTOr, Ox.ev, Ox.evT, Lx.ev, It.ev, v_c, v_bin, v_cmp, v_bl, v_isN, v_ntN, v_not, v_tru, v_asB, v_and, v_or, v_if, v_tup, v_nil, v_cons, v_sub, v_onone, v_osome, v_slice, v_call, v_glb, v_ofE, v_disp, v_cat, v_bi1, v_biL, v_isi, v_inS, v_sidx, v_join, v_subL, v_new, v_dct, v_lenSet, v_yes, v_itL, v_itA, v_itR1, v_itR2, v_lc, q_v_asg, q_v_par, q_v_setD, q_v_expr, q_v_app, q_v_if, q_v_for, q_v_ret, o_add, o_sub, c_lt, c_le, c_gt, c_ge, a_add, R.bind_ok, R.bind_ex, R.bind_bad, R.st_ok, R.st_ex, R.st_bad, RS.seq_nx, RS.seq_rt, RS.seq_ex, RS.seq_bk, RS.seq_ct, RS.seq_bad, optR_some, optR_none, Tg.set, setAll, asB, Lt.truthy, isNon, biLE, getL_tmp, getM_tmp, Option.isSome_some, reduceIte, if_true, if_false, Bool.false_eq_true, Option.map_some, w0, w1, w2, w3, w4, w5, w6, w7, w8, w9, w10, w11, w12, w13, w14, w15, w16, w17, w18, w19, w20, w21, w22, w23, w24, x0, x1, x2, x3, x4, x5, x6, x7, x8, x9, x10, x11, x12, x13, x14, x15, x16, x17, x18, x19, x20, x21, x22, x23, x24, z0, z1, z2, z3, z4, z5, z6, z7, z8, z9, z10, z11, z12, z13, z14, z15, z16, z17, z18, z19, z20, z21, z22, z23, z24, y0, y1, y2, y3, y4, y5, y6, y7, y8, y9, y10, y11, y12, y13, y14, y15, y16, y17, y18, y19, y20, y21, y22, y23, y24, b7, c0, hlen, bi1E, c1, hsub, e0, e1, e2, htx]
              rw [e]
              exact ⟨[], by rw [List.append_nil]; rfl⟩
            | some p =>
              obtain ⟨n, l⟩ := p
              rw [hd] at htx
              simp only at htx
              have e : b7.ev (Pn (k + 2)) [some (.tup (nats row)), some (.int (at0 : Int)), some (.int ((left + 1 : Nat) : Int)), none, none, none, none, none] H = .rt (.tup [.str (txt n), .int ((row.length - l.length : Nat) : Int)]) H := by
                simp -implicitDefEqProofs only [Stms.ev, Stm.ev, Ex.ev, Ex.evT, Exs.ev, Exs.evAnd, Exs.evOr, Exs.evTAnd, Exs.evTOr, Ox.ev, Ox.evT, Lx.ev, It.ev, v_c, v_bin, v_cmp, v_bl, v_isN, v_ntN, v_not, v_tru, v_asB, v_and, v_or, v_if, v_tup, v_nil, v_cons, v_sub, v_onone, v_osome, v_slice, v_call, v_glb, v_ofE, v_disp, v_cat, v_bi1, v_biL, v_isi, v_inS, v_sidx, v_join, v_subL, v_new, v_dct, v_lenSet, v_yes, v_itL, v_itA, v_itR1, v_itR2, v_lc, q_v_asg, q_v_par, q_v_setD, q_v_expr, q_v_app, q_v_if, q_v_for, q_v_ret, o_add, o_sub, c_lt, c_le, c_gt, c_ge, a_add, R.bind_ok, R.bind_ex, R.bind_bad, R.st_ok, R.st_ex, R.st_bad, RS.seq_nx, RS.seq_rt, RS.seq_ex, RS.seq_bk, RS.seq_ct, RS.seq_bad, optR_some, optR_none, Tg.set, setAll, asB, Lt.truthy, isNon, biLE, getL_tmp, getM_tmp, Option.isSome_some, reduceIte, if_true, if_false, Bool.false_eq_true, Option.map_some, w0, w1, w2, w3, w4, w5, w6, w7, w8, w9, w10, w11, w12, w13, w14, w15, w16, w17, w18, w19, w20, w21, w22, w23, w24, x0, x1, x2, x3, x4, x5, x6, x7, x8, x9, x10, x11, x12, x13, x14, x15, x16, x17, x18, x19, x20, x21, x22, x23, x24, z0, z1, z2, z3, z4, z5, z6, z7, z8, z9, z10, z11, z12, z13, z14, z15, z16, z17, z18, z19, z20, z21, z22, z23, z24, y0, y1, y2, y3, y4, y5, y6, y7, y8, y9, y10, y11, y12, y13, y14, y15, y16, y17, y18, y19, y20, y21, y22, y23, y24, b7, c0, hlen, bi1E, c1, hsub, e0, e1, e2, htx]
              rw [e]
              exact endR_rt0 rfl
          · rw [if_neg m2]
            have e2 := neN (a := m) (b := 2) (by omega)
            by_cases m3 : m = 3
            · rw [if_pos m3]
              have e3 : cmpop .ne (.int (m : Int)) (.int 3) = some false := by rw [c_neI, decide_eq_true (by omega)]; rfl
              cases hd : dnum r with
              | none =>
                rw [hd] at hnum
                simp only at hnum
                have e : b7.ev (Pn (k + 2)) [some (.tup (nats row)), some (.int (at0 : Int)), some (.int ((left + 1 : Nat) : Int)), none, none, none, none, none] H = .ex 0 [some (.tup (nats row)), some (.int (at0 : Int)), some (.int ((left + 1 : Nat) : Int)), some (.int (m : Int)), none, none, none, none] H := by
                  simp -implicitDefEqProofs only [Stms.ev, Stm.ev, Ex.ev, Ex.evT, Exs.ev, Exs.evAnd, Exs.evOr, Exs.evTAnd, Exs.evTOr, Ox.ev, Ox.evT, Lx.ev, It.ev, v_c, v_bin, v_cmp, v_bl, v_isN, v_ntN, v_not, v_tru, v_asB, v_and, v_or, v_if, v_tup, v_nil, v_cons, v_sub, v_onone, v_osome, v_slice, v_call, v_glb, v_ofE, v_disp, v_cat, v_bi1, v_biL, v_isi, v_inS, v_sidx, v_join, v_subL, v_new, v_dct, v_lenSet, v_yes, v_itL, v_itA, v_itR1, v_itR2, v_lc, q_v_asg, q_v_par, q_v_setD, q_v_expr, q_v_app, q_v_if, q_v_for, q_v_ret, o_add, o_sub, c_lt, c_le, c_gt, c_ge, a_add, R.bind_ok, R.bind_ex, R.bind_bad, R.st_ok, R.st_ex, R.st_bad, RS.seq_nx, RS.seq_rt, RS.seq_ex, RS.seq_bk, RS.seq_ct, RS.seq_bad, optR_some, optR_none, Tg.set, setAll, asB, Lt.truthy, isNon, biLE, getL_tmp, getM_tmp, Option.isSome_some, reduceIte, if_true, if_false, Bool.false_eq_true, Option.map_some, w0, w1, w2, w3, w4, w5, w6, w7, w8, w9, w10, w11, w12, w13, w14, w15, w16, w17, w18, w19, w20, w21, w22, w23, w24, x0, x1, x2, x3, x4, x5, x6, x7, x8, x9, x10, x11, x12, x13, x14, x15, x16, x17, x18, x19, x20, x21, x22, x23, x24, z0, z1, z2, z3, z4, z5, z6, z7, z8, z9, z10, z11, z12, z13, z14, z15, z16, z17, z18, z19, z20, z21, z22, z23, z24, y0, y1, y2, y3, y4, y5, y6, y7, y8, y9, y10, y11, y12, y13, y14, y15, y16, y17, y18, y19, y20, y21, y22, y23, y24, b7, c0, hlen, bi1E, c1, hsub, e0, e1, e2, e3, hnum]
                rw [e]
                exact ⟨[], by rw [List.append_nil]; rfl⟩
              | some p =>
                obtain ⟨n, r2⟩ := p
                rw [hd] at hnum
                simp only at hnum
                have hn62 : in62 (n : Int) = true := by
                  have := hs (at0 + 1) n r2 (by rw [g2]; exact hd)
                  unfold in62
                  rw [decide_eq_true_eq]
                  omega
                have hr2 := dnum_len hd
                obtain ⟨pre, hpre⟩ := dgo_suffix hd
                have hpre2 : row.drop (at0 + 1) = pre ++ r2 := by rw [g2]; exact hpre
                have hsuf := suffix_drop hpre2
                have hloop := thing_loop (k := k + 2) (left := left) (row := row) (H := H) (all := rng 0 n) (mk := some (.int (m : Int))) (sz := some (.int (n : Int))) hr (fun a J haJ => by
                  have := thing_at_ok left (k + 1) a row J (by omega) hr haJ hs
                  rw [show (((left + 1 : Nat) : Int) - 1) = (left : Int) by omega]
                  exact this) (rng 0 n) (row.length - r2.length) [] none none (by omega) (by simp)
                rw [rng_len, hsuf] at hloop
                cases hq : rep (dec left) n r2 with
                | none =>
                  rw [hq] at hloop
                  obtain ⟨ρ, J, h⟩ := hloop
                  have h : forS none (rng 0 n) (.name ⟨6, "_", ⟨70, 8, 70, 9⟩⟩) (b7_0.ev (Pn (k + 2))) (rng 0 n) _ (H ++ [.lst []]) = _ := h
                  have e : b7.ev (Pn (k + 2)) [some (.tup (nats row)), some (.int (at0 : Int)), some (.int ((left + 1 : Nat) : Int)), none, none, none, none, none] H = .ex 0 ρ (H ++ J) := by
                    simp -implicitDefEqProofs only [Stms.ev, Stm.ev, Ex.ev, Ex.evT, Exs.ev, Exs.evAnd, Exs.evOr, Exs.evTAnd, Exs.evTOr, Ox.ev, Ox.evT, Lx.ev, It.ev, v_c, v_bin, v_cmp, v_bl, v_isN, v_ntN, v_not, v_tru, v_asB, v_and, v_or, v_if, v_tup, v_nil, v_cons, v_sub, v_onone, v_osome, v_slice, v_call, v_glb, v_ofE, v_disp, v_cat, v_bi1, v_biL, v_isi, v_inS, v_sidx, v_join, v_subL, v_new, v_dct, v_lenSet, v_yes, v_itL, v_itA, v_itR1, v_itR2, v_lc, q_v_asg, q_v_par, q_v_setD, q_v_expr, q_v_app, q_v_if, q_v_for, q_v_ret, o_add, o_sub, c_lt, c_le, c_gt, c_ge, a_add, R.bind_ok, R.bind_ex, R.bind_bad, R.st_ok, R.st_ex, R.st_bad, RS.seq_nx, RS.seq_rt, RS.seq_ex, RS.seq_bk, RS.seq_ct, RS.seq_bad, optR_some, optR_none, Tg.set, setAll, asB, Lt.truthy, isNon, biLE, getL_tmp, getM_tmp, Option.isSome_some, reduceIte, if_true, if_false, Bool.false_eq_true, Option.map_some, w0, w1, w2, w3, w4, w5, w6, w7, w8, w9, w10, w11, w12, w13, w14, w15, w16, w17, w18, w19, w20, w21, w22, w23, w24, x0, x1, x2, x3, x4, x5, x6, x7, x8, x9, x10, x11, x12, x13, x14, x15, x16, x17, x18, x19, x20, x21, x22, x23, x24, z0, z1, z2, z3, z4, z5, z6, z7, z8, z9, z10, z11, z12, z13, z14, z15, z16, z17, z18, z19, z20, z21, z22, z23, z24, y0, y1, y2, y3, y4, y5, y6, y7, y8, y9, y10, y11, y12, y13, y14, y15, y16, y17, y18, y19, y20, y21, y22, y23, y24, b7, c0, hlen, bi1E, c1, hsub, e0, e1, e2, e3, hnum, s0, intE, hn62, Int.toNat_natCast, h]
                  rw [e]
                  simp only [hq]
                  exact ⟨J, rfl⟩
                | some p2 =>
                  obtain ⟨xs, r3⟩ := p2
                  rw [hq] at hloop
                  obtain ⟨v', w', h⟩ := hloop
                  rw [List.nil_append] at h
                  have h : forS none (rng 0 n) (.name ⟨6, "_", ⟨70, 8, 70, 9⟩⟩) (b7_0.ev (Pn (k + 2))) (rng 0 n) _ (H ++ [.lst []]) = _ := h
                  have e : b7.ev (Pn (k + 2)) [some (.tup (nats row)), some (.int (at0 : Int)), some (.int ((left + 1 : Nat) : Int)), none, none, none, none, none] H = .rt (.tup [.tup (Th.es xs), .int ((row.length - r3.length : Nat) : Int)]) (H ++ [.lst (Th.es xs)]) := by
                    simp -implicitDefEqProofs only [Stms.ev, Stm.ev, Ex.ev, Ex.evT, Exs.ev, Exs.evAnd, Exs.evOr, Exs.evTAnd, Exs.evTOr, Ox.ev, Ox.evT, Lx.ev, It.ev, v_c, v_bin, v_cmp, v_bl, v_isN, v_ntN, v_not, v_tru, v_asB, v_and, v_or, v_if, v_tup, v_nil, v_cons, v_sub, v_onone, v_osome, v_slice, v_call, v_glb, v_ofE, v_disp, v_cat, v_bi1, v_biL, v_isi, v_inS, v_sidx, v_join, v_subL, v_new, v_dct, v_lenSet, v_yes, v_itL, v_itA, v_itR1, v_itR2, v_lc, q_v_asg, q_v_par, q_v_setD, q_v_expr, q_v_app, q_v_if, q_v_for, q_v_ret, o_add, o_sub, c_lt, c_le, c_gt, c_ge, a_add, R.bind_ok, R.bind_ex, R.bind_bad, R.st_ok, R.st_ex, R.st_bad, RS.seq_nx, RS.seq_rt, RS.seq_ex, RS.seq_bk, RS.seq_ct, RS.seq_bad, optR_some, optR_none, Tg.set, setAll, asB, Lt.truthy, isNon, biLE, getL_tmp, getM_tmp, Option.isSome_some, reduceIte, if_true, if_false, Bool.false_eq_true, Option.map_some, w0, w1, w2, w3, w4, w5, w6, w7, w8, w9, w10, w11, w12, w13, w14, w15, w16, w17, w18, w19, w20, w21, w22, w23, w24, x0, x1, x2, x3, x4, x5, x6, x7, x8, x9, x10, x11, x12, x13, x14, x15, x16, x17, x18, x19, x20, x21, x22, x23, x24, z0, z1, z2, z3, z4, z5, z6, z7, z8, z9, z10, z11, z12, z13, z14, z15, z16, z17, z18, z19, z20, z21, z22, z23, z24, y0, y1, y2, y3, y4, y5, y6, y7, y8, y9, y10, y11, y12, y13, y14, y15, y16, y17, y18, y19, y20, y21, y22, y23, y24, b7, c0, hlen, bi1E, c1, hsub, e0, e1, e2, e3, hnum, s0, intE, hn62, Int.toNat_natCast, h, getL_new, s2]
                  rw [e]
                  simp only [hq]
                  exact endR_rt (dat_pair (.tup xs) _)
            · rw [if_neg m3]
              have e3 : cmpop .ne (.int (m : Int)) (.int 3) = some true := by rw [c_neI, decide_eq_false (by omega)]; rfl
              have e : b7.ev (Pn (k + 2)) [some (.tup (nats row)), some (.int (at0 : Int)), some (.int ((left + 1 : Nat) : Int)), none, none, none, none, none] H = .ex 0 [some (.tup (nats row)), some (.int (at0 : Int)), some (.int ((left + 1 : Nat) : Int)), some (.int (m : Int)), none, none, none, none] H := by
                simp -implicitDefEqProofs only [Stms.ev, Stm.ev, Ex.ev, Ex.evT, Exs.ev, Exs.evAnd, Exs.evOr, Exs.evTAnd, Exs.evTOr, Ox.ev, Ox.evT, Lx.ev, It.ev, v_c, v_bin, v_cmp, v_bl, v_isN, v_ntN, v_not, v_tru, v_asB, v_and, v_or, v_if, v_tup, v_nil, v_cons, v_sub, v_onone, v_osome, v_slice, v_call, v_glb, v_ofE, v_disp, v_cat, v_bi1, v_biL, v_isi, v_inS, v_sidx, v_join, v_subL, v_new, v_dct, v_lenSet, v_yes, v_itL, v_itA, v_itR1, v_itR2, v_lc, q_v_asg, q_v_par, q_v_setD, q_v_expr, q_v_app, q_v_if, q_v_for, q_v_ret, o_add, o_sub, c_lt, c_le, c_gt, c_ge, a_add, R.bind_ok, R.bind_ex, R.bind_bad, R.st_ok, R.st_ex, R.st_bad, RS.seq_nx, RS.seq_rt, RS.seq_ex, RS.seq_bk, RS.seq_ct, RS.seq_bad, optR_some, optR_none, Tg.set, setAll, asB, Lt.truthy, isNon, biLE, getL_tmp, getM_tmp, Option.isSome_some, reduceIte, if_true, if_false, Bool.false_eq_true, Option.map_some, w0, w1, w2, w3, w4, w5, w6, w7, w8, w9, w10, w11, w12, w13, w14, w15, w16, w17, w18, w19, w20, w21, w22, w23, w24, x0, x1, x2, x3, x4, x5, x6, x7, x8, x9, x10, x11, x12, x13, x14, x15, x16, x17, x18, x19, x20, x21, x22, x23, x24, z0, z1, z2, z3, z4, z5, z6, z7, z8, z9, z10, z11, z12, z13, z14, z15, z16, z17, z18, z19, z20, z21, z22, z23, z24, y0, y1, y2, y3, y4, y5, y6, y7, y8, y9, y10, y11, y12, y13, y14, y15, y16, y17, y18, y19, y20, y21, y22, y23, y24, b7, c0, hlen, bi1E, c1, hsub, e0, e1, e2, e3]
              rw [e]
              exact ⟨[], by rw [List.append_nil]; rfl⟩
end K01
end
section
set_option Elab.async false
set_option linter.all false
set_option maxRecDepth 100000
set_option maxHeartbeats 1000000
/-! k01: things, sealed ones. -/
namespace K01
open PySem Lt
theorem put_thing_ok {k : Nat} {th : Th} {H : Hq} (hd : th.dep ≤ 40) (hk : 42 ≤ k) (hf : th.fit) (hl : (enc th).length ≤ 16000000) : cl (k + 2) 4 [th.e] H = .ok (.tup (nats (enc th))) H := by
  have h := bytes_of_ok 40 th 40 k H hd hd hk hf hl
  rw [← par_cl] at h
  have h : (Pn (k + 1)).cl 5 [th.e, .int 40] H = _ := h
  rw [cl_succ (fn := f4) rfl rfl]
  show endR true H (b4.ev (Pn (k + 1)) [some th.e] H) = _
  have e : b4.ev (Pn (k + 1)) [some th.e] H = .rt (.tup (nats (enc th))) H := by
    simp -implicitDefEqProofs only [Stms.ev, Stm.ev, Ex.ev, Ex.evT, Exs.ev, Exs.evAnd, Exs.evOr, Exs.evTAnd, Exs.evTOr, Ox.ev, Ox.evT, Lx.ev, It.ev, v_c, v_bin, v_cmp, v_bl, v_isN, v_ntN, v_not, v_tru, v_asB, v_and, v_or, v_if, v_tup, v_nil, v_cons, v_sub, v_onone, v_osome, v_slice, v_call, v_glb, v_ofE, v_disp, v_cat, v_bi1, v_biL, v_isi, v_inS, v_sidx, v_join, v_subL, v_new, v_dct, v_lenSet, v_yes, v_itL, v_itA, v_itR1, v_itR2, v_lc, q_v_asg, q_v_par, q_v_setD, q_v_expr, q_v_app, q_v_if, q_v_for, q_v_ret, o_add, o_sub, c_lt, c_le, c_gt, c_ge, a_add, R.bind_ok, R.bind_ex, R.bind_bad, R.st_ok, R.st_ex, R.st_bad, RS.seq_nx, RS.seq_rt, RS.seq_ex, RS.seq_bk, RS.seq_ct, RS.seq_bad, optR_some, optR_none, Tg.set, setAll, asB, Lt.truthy, isNon, biLE, getL_tmp, getM_tmp, Option.isSome_some, reduceIte, if_true, if_false, Bool.false_eq_true, Option.map_some, w0, w1, w2, w3, w4, w5, w6, w7, w8, w9, w10, w11, w12, w13, w14, w15, w16, w17, w18, w19, w20, w21, w22, w23, w24, x0, x1, x2, x3, x4, x5, x6, x7, x8, x9, x10, x11, x12, x13, x14, x15, x16, x17, x18, x19, x20, x21, x22, x23, x24, z0, z1, z2, z3, z4, z5, z6, z7, z8, z9, z10, z11, z12, z13, z14, z15, z16, z17, z18, z19, z20, z21, z22, z23, z24, y0, y1, y2, y3, y4, y5, y6, y7, y8, y9, y10, y11, y12, y13, y14, y15, y16, y17, y18, y19, y20, y21, y22, y23, y24, b4, glb1, h]
  rw [e]
  exact endR_rt0 (dat_nats _)
theorem take_thing_ok {k at0 : Nat} {row : List Nat} {H : Hq} (hk : 42 ≤ k) (hr : row.length ≤ 100000) (ha : at0 ≤ row.length) (hs : Small row) : tOut row H (dec 40 (row.drop at0)) (cl (k + 2) 6 [.tup (nats row), .int (at0 : Int)] H) := by
  have h := thing_at_ok 40 k at0 row H hk hr ha hs
  rw [← par_cl] at h
  rw [cl_succ (fn := f6) rfl rfl]
  show tOut row H _ (endR true H (b6.ev (Pn (k + 1)) [some (.tup (nats row)), some (.int (at0 : Int))] H))
  cases hd : dec 40 (row.drop at0) with
  | none =>
    rw [hd] at h
    obtain ⟨J, h⟩ := h
    have h : (Pn (k + 1)).cl 7 [.tup (nats row), .int (at0 : Int), .int 40] H = _ := h
    have e : b6.ev (Pn (k + 1)) [some (.tup (nats row)), some (.int (at0 : Int))] H = .ex 0 [some (.tup (nats row)), some (.int (at0 : Int))] (H ++ J) := by
      simp -implicitDefEqProofs only [Stms.ev, Stm.ev, Ex.ev, Ex.evT, Exs.ev, Exs.evAnd, Exs.evOr, Exs.evTAnd, Exs.evTOr, Ox.ev, Ox.evT, Lx.ev, It.ev, v_c, v_bin, v_cmp, v_bl, v_isN, v_ntN, v_not, v_tru, v_asB, v_and, v_or, v_if, v_tup, v_nil, v_cons, v_sub, v_onone, v_osome, v_slice, v_call, v_glb, v_ofE, v_disp, v_cat, v_bi1, v_biL, v_isi, v_inS, v_sidx, v_join, v_subL, v_new, v_dct, v_lenSet, v_yes, v_itL, v_itA, v_itR1, v_itR2, v_lc, q_v_asg, q_v_par, q_v_setD, q_v_expr, q_v_app, q_v_if, q_v_for, q_v_ret, o_add, o_sub, c_lt, c_le, c_gt, c_ge, a_add, R.bind_ok, R.bind_ex, R.bind_bad, R.st_ok, R.st_ex, R.st_bad, RS.seq_nx, RS.seq_rt, RS.seq_ex, RS.seq_bk, RS.seq_ct, RS.seq_bad, optR_some, optR_none, Tg.set, setAll, asB, Lt.truthy, isNon, biLE, getL_tmp, getM_tmp, Option.isSome_some, reduceIte, if_true, if_false, Bool.false_eq_true, Option.map_some, w0, w1, w2, w3, w4, w5, w6, w7, w8, w9, w10, w11, w12, w13, w14, w15, w16, w17, w18, w19, w20, w21, w22, w23, w24, x0, x1, x2, x3, x4, x5, x6, x7, x8, x9, x10, x11, x12, x13, x14, x15, x16, x17, x18, x19, x20, x21, x22, x23, x24, z0, z1, z2, z3, z4, z5, z6, z7, z8, z9, z10, z11, z12, z13, z14, z15, z16, z17, z18, z19, z20, z21, z22, z23, z24, y0, y1, y2, y3, y4, y5, y6, y7, y8, y9, y10, y11, y12, y13, y14, y15, y16, y17, y18, y19, y20, y21, y22, y23, y24, b6, glb1, h]
    rw [e]
    exact ⟨J, rfl⟩
  | some p =>
    obtain ⟨x, l⟩ := p
    rw [hd] at h
    have h : (Pn (k + 1)).cl 7 [.tup (nats row), .int (at0 : Int), .int 40] H = .ok (.tup [x.e, .int ((row.length - l.length : Nat) : Int)]) H := h
    have e : b6.ev (Pn (k + 1)) [some (.tup (nats row)), some (.int (at0 : Int))] H = .rt (.tup [x.e, .int ((row.length - l.length : Nat) : Int)]) H := by
      simp -implicitDefEqProofs only [Stms.ev, Stm.ev, Ex.ev, Ex.evT, Exs.ev, Exs.evAnd, Exs.evOr, Exs.evTAnd, Exs.evTOr, Ox.ev, Ox.evT, Lx.ev, It.ev, v_c, v_bin, v_cmp, v_bl, v_isN, v_ntN, v_not, v_tru, v_asB, v_and, v_or, v_if, v_tup, v_nil, v_cons, v_sub, v_onone, v_osome, v_slice, v_call, v_glb, v_ofE, v_disp, v_cat, v_bi1, v_biL, v_isi, v_inS, v_sidx, v_join, v_subL, v_new, v_dct, v_lenSet, v_yes, v_itL, v_itA, v_itR1, v_itR2, v_lc, q_v_asg, q_v_par, q_v_setD, q_v_expr, q_v_app, q_v_if, q_v_for, q_v_ret, o_add, o_sub, c_lt, c_le, c_gt, c_ge, a_add, R.bind_ok, R.bind_ex, R.bind_bad, R.st_ok, R.st_ex, R.st_bad, RS.seq_nx, RS.seq_rt, RS.seq_ex, RS.seq_bk, RS.seq_ct, RS.seq_bad, optR_some, optR_none, Tg.set, setAll, asB, Lt.truthy, isNon, biLE, getL_tmp, getM_tmp, Option.isSome_some, reduceIte, if_true, if_false, Bool.false_eq_true, Option.map_some, w0, w1, w2, w3, w4, w5, w6, w7, w8, w9, w10, w11, w12, w13, w14, w15, w16, w17, w18, w19, w20, w21, w22, w23, w24, x0, x1, x2, x3, x4, x5, x6, x7, x8, x9, x10, x11, x12, x13, x14, x15, x16, x17, x18, x19, x20, x21, x22, x23, x24, z0, z1, z2, z3, z4, z5, z6, z7, z8, z9, z10, z11, z12, z13, z14, z15, z16, z17, z18, z19, z20, z21, z22, z23, z24, y0, y1, y2, y3, y4, y5, y6, y7, y8, y9, y10, y11, y12, y13, y14, y15, y16, y17, y18, y19, y20, y21, y22, y23, y24, b6, glb1, h]
    rw [e]
    exact endR_rt0 (dat_pair x _)
/-- the bytes of a sealed thing -/
def sld (th : Th) : List Nat := num (enc th).length ++ num (csum (enc th)) ++ enc th
theorem cgo_lt : ∀ (l : List Nat) (lo hi : Nat), lo < 65521 → hi < 65521 → (cgo l lo hi).1 < 65521 ∧ (cgo l lo hi).2 < 65521
  | [], lo, hi, h1, h2 => ⟨h1, h2⟩
  | a :: r, lo, hi, h1, h2 => cgo_lt r _ _ (Nat.mod_lt _ (by omega)) (Nat.mod_lt _ (by omega))
theorem csum_lt (l : List Nat) : csum l < 65521 * 65521 := by
  have := cgo_lt l 1 0 (by omega) (by omega)
  unfold csum
  omega
theorem put_sealed_ok {k : Nat} {th : Th} {H : Hq} (hd : th.dep ≤ 40) (hk : 42 ≤ k) (hf : th.fit) (hl : (enc th).length ≤ 1000000) : cl (k + 3) 9 [th.e] H = .ok (.tup (nats (sld th))) H := by
  have h1 := put_thing_ok (k := k) (H := H) hd hk hf (by omega)
  have h2 := put_number_ok (k := k + 1) (n := (enc th).length) (H := H) (small100 (small9 hl))
  have h3 := check_sum_ok (k := k + 1) (row := enc th) (H := H)
  have hc := csum_lt (enc th)
  have h4 := put_number_ok (k := k + 1) (n := csum (enc th)) (H := H) (small100 (by omega))
  rw [← par_cl] at h1 h2 h3 h4
  have hlen : lenE H (.tup (nats (enc th))) = some (enc th).length := by show some (nats (enc th)).length = _; rw [nats_len]
  have n1 := num_len (small9 hl)
  have n2 := num_len (n := csum (enc th)) (by omega)
  rw [cl_succ (fn := f9) rfl rfl]
  show endR true H (b9.ev (Pn (k + 2)) [some th.e, none] H) = _
  have e : b9.ev (Pn (k + 2)) [some th.e, none] H = .rt (.tup (nats (sld th))) H := by
    simp -implicitDefEqProofs only [Stms.ev, Stm.ev, Ex.ev, Ex.evT, Exs.ev, Exs.evAnd, Exs.evOr, Exs.evTAnd, Exs.evTOr, Ox.ev, Ox.evT, Lx.ev, It.ev, v_c, v_bin, v_cmp, v_bl, v_isN, v_ntN, v_not, v_tru, v_asB, v_and, v_or, v_if, v_tup, v_nil, v_cons, v_sub, v_onone, v_osome, v_slice, v_call, v_glb, v_ofE, v_disp, v_cat, v_bi1, v_biL, v_isi, v_inS, v_sidx, v_join, v_subL, v_new, v_dct, v_lenSet, v_yes, v_itL, v_itA, v_itR1, v_itR2, v_lc, q_v_asg, q_v_par, q_v_setD, q_v_expr, q_v_app, q_v_if, q_v_for, q_v_ret, o_add, o_sub, c_lt, c_le, c_gt, c_ge, a_add, R.bind_ok, R.bind_ex, R.bind_bad, R.st_ok, R.st_ex, R.st_bad, RS.seq_nx, RS.seq_rt, RS.seq_ex, RS.seq_bk, RS.seq_ct, RS.seq_bad, optR_some, optR_none, Tg.set, setAll, asB, Lt.truthy, isNon, biLE, getL_tmp, getM_tmp, Option.isSome_some, reduceIte, if_true, if_false, Bool.false_eq_true, Option.map_some, w0, w1, w2, w3, w4, w5, w6, w7, w8, w9, w10, w11, w12, w13, w14, w15, w16, w17, w18, w19, w20, w21, w22, w23, w24, x0, x1, x2, x3, x4, x5, x6, x7, x8, x9, x10, x11, x12, x13, x14, x15, x16, x17, x18, x19, x20, x21, x22, x23, x24, z0, z1, z2, z3, z4, z5, z6, z7, z8, z9, z10, z11, z12, z13, z14, z15, z16, z17, z18, z19, z20, z21, z22, z23, z24, y0, y1, y2, y3, y4, y5, y6, y7, y8, y9, y10, y11, y12, y13, y14, y15, y16, y17, y18, y19, y20, y21, y22, y23, y24, b9, h1, hlen, bi1E, h2, h3, h4, o_addT (show (nats (num (enc th).length)).length + (nats (num (csum (enc th)))).length ≤ 16777216 by rw [nats_len, nats_len]; omega), ← nats_app, o_addT (show (nats (num (enc th).length ++ num (csum (enc th)))).length + (nats (enc th)).length ≤ 16777216 by rw [nats_len, nats_len, List.length_append]; omega), sld]
  rw [e]
  exact endR_rt0 (dat_nats _)
/-- a sealed thing's bytes taken off -/
def dsld (l : List Nat) : Option (Th × List Nat) := match dnum l with
  | none => none
  | some (size, r) => match dnum r with
    | none => none
    | some (check, r2) => if size = 0 ∨ (r2.take size).length < size ∨ csum (r2.take size) ≠ check then none else match dec 40 (r2.take size) with
      | none => none
      | some (x, l2) => if l2 ≠ [] then none else some (x, r2.drop size)
theorem take_sealed_ok {k at0 : Nat} {row : List Nat} {H : Hq} (hk : 42 ≤ k) (hr : row.length ≤ 100000) (ha : at0 ≤ 100000)
    (hs : ∀ size r check r2, dnum (row.drop at0) = some (size, r) → dnum r = some (check, r2) → size ≠ 0 → ¬ (r2.take size).length < size → csum (r2.take size) = check → Small (r2.take size)) :
    tOut row H (dsld (row.drop at0)) (cl (k + 3) 10 [.tup (nats row), .int (at0 : Int)] H) := by
  have h1 := take_number_ok (k := k + 1) (H := H) (row := row) (at0 := at0) (by omega) (by omega)
  rw [← par_cl] at h1
  rw [cl_succ (fn := f10) rfl rfl]
  show tOut row H _ (endR true H (b10.ev (Pn (k + 2)) [some (.tup (nats row)), some (.int (at0 : Int)), none, none, none, none, none] H))
  have s2 : ∀ x y : E, [x, y].length ≤ sizeLine := fun x y => le_line (by simp)
  unfold dsld
  cases hd1 : dnum (row.drop at0) with
  | none =>
    rw [hd1] at h1
    simp only at h1
    have e : b10.ev (Pn (k + 2)) [some (.tup (nats row)), some (.int (at0 : Int)), none, none, none, none, none] H = .ex 0 [some (.tup (nats row)), some (.int (at0 : Int)), none, none, none, none, none] H := by
      simp -implicitDefEqProofs only [Stms.ev, Stm.ev, Ex.ev, Ex.evT, Exs.ev, Exs.evAnd, Exs.evOr, Exs.evTAnd, Exs.evTOr, Ox.ev, Ox.evT, Lx.ev, It.ev, v_c, v_bin, v_cmp, v_bl, v_isN, v_ntN, v_not, v_tru, v_asB, v_and, v_or, v_if, v_tup, v_nil, v_cons, v_sub, v_onone, v_osome, v_slice, v_call, v_glb, v_ofE, v_disp, v_cat, v_bi1, v_biL, v_isi, v_inS, v_sidx, v_join, v_subL, v_new, v_dct, v_lenSet, v_yes, v_itL, v_itA, v_itR1, v_itR2, v_lc, q_v_asg, q_v_par, q_v_setD, q_v_expr, q_v_app, q_v_if, q_v_for, q_v_ret, o_add, o_sub, c_lt, c_le, c_gt, c_ge, a_add, R.bind_ok, R.bind_ex, R.bind_bad, R.st_ok, R.st_ex, R.st_bad, RS.seq_nx, RS.seq_rt, RS.seq_ex, RS.seq_bk, RS.seq_ct, RS.seq_bad, optR_some, optR_none, Tg.set, setAll, asB, Lt.truthy, isNon, biLE, getL_tmp, getM_tmp, Option.isSome_some, reduceIte, if_true, if_false, Bool.false_eq_true, Option.map_some, w0, w1, w2, w3, w4, w5, w6, w7, w8, w9, w10, w11, w12, w13, w14, w15, w16, w17, w18, w19, w20, w21, w22, w23, w24, x0, x1, x2, x3, x4, x5, x6, x7, x8, x9, x10, x11, x12, x13, x14, x15, x16, x17, x18, x19, x20, x21, x22, x23, x24, z0, z1, z2, z3, z4, z5, z6, z7, z8, z9, z10, z11, z12, z13, z14, z15, z16, z17, z18, z19, z20, z21, z22, z23, z24, y0, y1, y2, y3, y4, y5, y6, y7, y8, y9, y10, y11, y12, y13, y14, y15, y16, y17, y18, y19, y20, y21, y22, y23, y24, b10, h1]
    rw [e]
    exact ⟨[], by rw [List.append_nil]; rfl⟩
  | some p1 =>
    obtain ⟨size, r⟩ := p1
    rw [hd1] at h1
    simp only at h1 ⊢
    obtain ⟨q1, hq1⟩ := dgo_suffix hd1
    have hs1 := suffix_drop hq1
    have hrl : r.length ≤ row.length := by
      have := congrArg List.length hq1
      rw [List.length_drop, List.length_append] at this
      omega
    have h2 := take_number_ok (k := k + 1) (H := H) (row := row) (at0 := row.length - r.length) (by omega) (by omega)
    rw [← par_cl, hs1] at h2
    cases hd2 : dnum r with
    | none =>
      rw [hd2] at h2
      simp only at h2
      have e : b10.ev (Pn (k + 2)) [some (.tup (nats row)), some (.int (at0 : Int)), none, none, none, none, none] H = .ex 0 [some (.tup (nats row)), some (.int ((row.length - r.length : Nat) : Int)), some (.int (size : Int)), none, none, none, none] H := by
        simp -implicitDefEqProofs only [Stms.ev, Stm.ev, Ex.ev, Ex.evT, Exs.ev, Exs.evAnd, Exs.evOr, Exs.evTAnd, Exs.evTOr, Ox.ev, Ox.evT, Lx.ev, It.ev, v_c, v_bin, v_cmp, v_bl, v_isN, v_ntN, v_not, v_tru, v_asB, v_and, v_or, v_if, v_tup, v_nil, v_cons, v_sub, v_onone, v_osome, v_slice, v_call, v_glb, v_ofE, v_disp, v_cat, v_bi1, v_biL, v_isi, v_inS, v_sidx, v_join, v_subL, v_new, v_dct, v_lenSet, v_yes, v_itL, v_itA, v_itR1, v_itR2, v_lc, q_v_asg, q_v_par, q_v_setD, q_v_expr, q_v_app, q_v_if, q_v_for, q_v_ret, o_add, o_sub, c_lt, c_le, c_gt, c_ge, a_add, R.bind_ok, R.bind_ex, R.bind_bad, R.st_ok, R.st_ex, R.st_bad, RS.seq_nx, RS.seq_rt, RS.seq_ex, RS.seq_bk, RS.seq_ct, RS.seq_bad, optR_some, optR_none, Tg.set, setAll, asB, Lt.truthy, isNon, biLE, getL_tmp, getM_tmp, Option.isSome_some, reduceIte, if_true, if_false, Bool.false_eq_true, Option.map_some, w0, w1, w2, w3, w4, w5, w6, w7, w8, w9, w10, w11, w12, w13, w14, w15, w16, w17, w18, w19, w20, w21, w22, w23, w24, x0, x1, x2, x3, x4, x5, x6, x7, x8, x9, x10, x11, x12, x13, x14, x15, x16, x17, x18, x19, x20, x21, x22, x23, x24, z0, z1, z2, z3, z4, z5, z6, z7, z8, z9, z10, z11, z12, z13, z14, z15, z16, z17, z18, z19, z20, z21, z22, z23, z24, y0, y1, y2, y3, y4, y5, y6, y7, y8, y9, y10, y11, y12, y13, y14, y15, y16, y17, y18, y19, y20, y21, y22, y23, y24, b10, h1, h2]
      rw [e]
      exact ⟨[], by rw [List.append_nil]; rfl⟩
    | some p2 =>
      obtain ⟨check, r2⟩ := p2
      rw [hd2] at h2
      simp only at h2 ⊢
      obtain ⟨q2, hq2⟩ := dgo_suffix hd2
      have hq3 : row.drop (row.length - r.length) = q2 ++ r2 := by rw [hs1]; exact hq2
      have hs2 := suffix_drop hq3
      have hr2 : r2.length ≤ row.length := by
        have := congrArg List.length hq2
        rw [List.length_append] at this
        omega
      have hcut : cutE (some ((row.length - r2.length : Nat) : Int)) (some (((row.length - r2.length : Nat) : Int) + (size : Int))) (.tup (nats row)) = some (.tup (nats (r2.take size))) := by
        rw [show (((row.length - r2.length : Nat) : Int) + (size : Int)) = ((row.length - r2.length + size : Nat) : Int) by omega, cut_nats, hs2, Nat.add_sub_cancel_left]
      have hlen : lenE H (.tup (nats (r2.take size))) = some (r2.take size).length := by show some (nats (r2.take size)).length = _; rw [nats_len]
      have h3 := check_sum_ok (k := k + 1) (row := r2.take size) (H := H)
      rw [← par_cl] at h3
      have ES : ∀ rr, b10.ev (Pn (k + 2)) [some (.tup (nats row)), some (.int (at0 : Int)), none, none, none, none, none] H = rr → rr = rr := fun _ _ => rfl
      by_cases hbad : size = 0 ∨ (r2.take size).length < size ∨ csum (r2.take size) ≠ check
      · rw [if_pos hbad]
        have e : b10.ev (Pn (k + 2)) [some (.tup (nats row)), some (.int (at0 : Int)), none, none, none, none, none] H = .ex 0 [some (.tup (nats row)), some (.int ((row.length - r2.length : Nat) : Int)), some (.int (size : Int)), some (.int (check : Int)), some (.tup (nats (r2.take size))), none, none] H := by
          by_cases b1 : size = 0
          · have c1 := eqN (a := size) (b := 0) (by omega)
            simp -implicitDefEqProofs only [Stms.ev, Stm.ev, Ex.ev, Ex.evT, Exs.ev, Exs.evAnd, Exs.evOr, Exs.evTAnd, Exs.evTOr, Ox.ev, Ox.evT, Lx.ev, It.ev, v_c, v_bin, v_cmp, v_bl, v_isN, v_ntN, v_not, v_tru, v_asB, v_and, v_or, v_if, v_tup, v_nil, v_cons, v_sub, v_onone, v_osome, v_slice, v_call, v_glb, v_ofE, v_disp, v_cat, v_bi1, v_biL, v_isi, v_inS, v_sidx, v_join, v_subL, v_new, v_dct, v_lenSet, v_yes, v_itL, v_itA, v_itR1, v_itR2, v_lc, q_v_asg, q_v_par, q_v_setD, q_v_expr, q_v_app, q_v_if, q_v_for, q_v_ret, o_add, o_sub, c_lt, c_le, c_gt, c_ge, a_add, R.bind_ok, R.bind_ex, R.bind_bad, R.st_ok, R.st_ex, R.st_bad, RS.seq_nx, RS.seq_rt, RS.seq_ex, RS.seq_bk, RS.seq_ct, RS.seq_bad, optR_some, optR_none, Tg.set, setAll, asB, Lt.truthy, isNon, biLE, getL_tmp, getM_tmp, Option.isSome_some, reduceIte, if_true, if_false, Bool.false_eq_true, Option.map_some, w0, w1, w2, w3, w4, w5, w6, w7, w8, w9, w10, w11, w12, w13, w14, w15, w16, w17, w18, w19, w20, w21, w22, w23, w24, x0, x1, x2, x3, x4, x5, x6, x7, x8, x9, x10, x11, x12, x13, x14, x15, x16, x17, x18, x19, x20, x21, x22, x23, x24, z0, z1, z2, z3, z4, z5, z6, z7, z8, z9, z10, z11, z12, z13, z14, z15, z16, z17, z18, z19, z20, z21, z22, z23, z24, y0, y1, y2, y3, y4, y5, y6, y7, y8, y9, y10, y11, y12, y13, y14, y15, y16, y17, y18, y19, y20, y21, y22, y23, y24, b10, h1, h2, hcut, c1]
          · have c1 := neN (a := size) (b := 0) (by omega)
            by_cases b2 : (r2.take size).length < size
            · have c2 : decide (((r2.take size).length : Int) < (size : Int)) = true := decide_eq_true (by omega)
              simp -implicitDefEqProofs only [Stms.ev, Stm.ev, Ex.ev, Ex.evT, Exs.ev, Exs.evAnd, Exs.evOr, Exs.evTAnd, Exs.evTOr, Ox.ev, Ox.evT, Lx.ev, It.ev, v_c, v_bin, v_cmp, v_bl, v_isN, v_ntN, v_not, v_tru, v_asB, v_and, v_or, v_if, v_tup, v_nil, v_cons, v_sub, v_onone, v_osome, v_slice, v_call, v_glb, v_ofE, v_disp, v_cat, v_bi1, v_biL, v_isi, v_inS, v_sidx, v_join, v_subL, v_new, v_dct, v_lenSet, v_yes, v_itL, v_itA, v_itR1, v_itR2, v_lc, q_v_asg, q_v_par, q_v_setD, q_v_expr, q_v_app, q_v_if, q_v_for, q_v_ret, o_add, o_sub, c_lt, c_le, c_gt, c_ge, a_add, R.bind_ok, R.bind_ex, R.bind_bad, R.st_ok, R.st_ex, R.st_bad, RS.seq_nx, RS.seq_rt, RS.seq_ex, RS.seq_bk, RS.seq_ct, RS.seq_bad, optR_some, optR_none, Tg.set, setAll, asB, Lt.truthy, isNon, biLE, getL_tmp, getM_tmp, Option.isSome_some, reduceIte, if_true, if_false, Bool.false_eq_true, Option.map_some, w0, w1, w2, w3, w4, w5, w6, w7, w8, w9, w10, w11, w12, w13, w14, w15, w16, w17, w18, w19, w20, w21, w22, w23, w24, x0, x1, x2, x3, x4, x5, x6, x7, x8, x9, x10, x11, x12, x13, x14, x15, x16, x17, x18, x19, x20, x21, x22, x23, x24, z0, z1, z2, z3, z4, z5, z6, z7, z8, z9, z10, z11, z12, z13, z14, z15, z16, z17, z18, z19, z20, z21, z22, z23, z24, y0, y1, y2, y3, y4, y5, y6, y7, y8, y9, y10, y11, y12, y13, y14, y15, y16, y17, y18, y19, y20, y21, y22, y23, y24, b10, h1, h2, hcut, c1, hlen, bi1E, c2]
            · have c2 : decide (((r2.take size).length : Int) < (size : Int)) = false := decide_eq_false (by omega)
              have b3 : csum (r2.take size) ≠ check := by
                rcases hbad with h | h | h
                · exact absurd h b1
                · exact absurd h b2
                · exact h
              have c3 : cmpop .ne (.int (csum (r2.take size) : Int)) (.int (check : Int)) = some true := by rw [c_neI, decide_eq_false (by omega)]; rfl
              simp -implicitDefEqProofs only [Stms.ev, Stm.ev, Ex.ev, Ex.evT, Exs.ev, Exs.evAnd, Exs.evOr, Exs.evTAnd, Exs.evTOr, Ox.ev, Ox.evT, Lx.ev, It.ev, v_c, v_bin, v_cmp, v_bl, v_isN, v_ntN, v_not, v_tru, v_asB, v_and, v_or, v_if, v_tup, v_nil, v_cons, v_sub, v_onone, v_osome, v_slice, v_call, v_glb, v_ofE, v_disp, v_cat, v_bi1, v_biL, v_isi, v_inS, v_sidx, v_join, v_subL, v_new, v_dct, v_lenSet, v_yes, v_itL, v_itA, v_itR1, v_itR2, v_lc, q_v_asg, q_v_par, q_v_setD, q_v_expr, q_v_app, q_v_if, q_v_for, q_v_ret, o_add, o_sub, c_lt, c_le, c_gt, c_ge, a_add, R.bind_ok, R.bind_ex, R.bind_bad, R.st_ok, R.st_ex, R.st_bad, RS.seq_nx, RS.seq_rt, RS.seq_ex, RS.seq_bk, RS.seq_ct, RS.seq_bad, optR_some, optR_none, Tg.set, setAll, asB, Lt.truthy, isNon, biLE, getL_tmp, getM_tmp, Option.isSome_some, reduceIte, if_true, if_false, Bool.false_eq_true, Option.map_some, w0, w1, w2, w3, w4, w5, w6, w7, w8, w9, w10, w11, w12, w13, w14, w15, w16, w17, w18, w19, w20, w21, w22, w23, w24, x0, x1, x2, x3, x4, x5, x6, x7, x8, x9, x10, x11, x12, x13, x14, x15, x16, x17, x18, x19, x20, x21, x22, x23, x24, z0, z1, z2, z3, z4, z5, z6, z7, z8, z9, z10, z11, z12, z13, z14, z15, z16, z17, z18, z19, z20, z21, z22, z23, z24, y0, y1, y2, y3, y4, y5, y6, y7, y8, y9, y10, y11, y12, y13, y14, y15, y16, y17, y18, y19, y20, y21, y22, y23, y24, b10, h1, h2, hcut, c1, hlen, bi1E, c2, h3, c3]
        rw [e]
        exact ⟨[], by rw [List.append_nil]; rfl⟩
      · rw [if_neg hbad]
        have b1 : size ≠ 0 := fun h => hbad (.inl h)
        have b2 : ¬ (r2.take size).length < size := fun h => hbad (.inr (.inl h))
        have b3 : csum (r2.take size) = check := Classical.byContradiction fun h => hbad (.inr (.inr h))
        have c1 := neN (a := size) (b := 0) (by omega)
        have c2 : decide (((r2.take size).length : Int) < (size : Int)) = false := decide_eq_false (by omega)
        have c3 : cmpop .ne (.int (csum (r2.take size) : Int)) (.int (check : Int)) = some false := by rw [c_neI, decide_eq_true (by omega)]; rfl
        have hbl : (r2.take size).length = size := by
          have := List.length_take_le size r2
          omega
        have h4 := take_thing_ok (k := k) (at0 := 0) (row := r2.take size) (H := H) hk (by rw [List.length_take]; omega) (by omega) (hs size r check r2 hd1 hd2 b1 b2 b3)
        rw [← par_cl] at h4
        rw [List.drop_zero] at h4
        cases hd : dec 40 (r2.take size) with
        | none =>
          rw [hd] at h4
          obtain ⟨J, h4⟩ := h4
          have h4 : (Pn (k + 2)).cl 6 [.tup (nats (r2.take size)), .int 0] H = .ex 0 (H ++ J) := h4
          have e : b10.ev (Pn (k + 2)) [some (.tup (nats row)), some (.int (at0 : Int)), none, none, none, none, none] H = .ex 0 [some (.tup (nats row)), some (.int ((row.length - r2.length : Nat) : Int)), some (.int (size : Int)), some (.int (check : Int)), some (.tup (nats (r2.take size))), none, none] (H ++ J) := by
            simp -implicitDefEqProofs only [Stms.ev, Stm.ev, Ex.ev, Ex.evT, Exs.ev, Exs.evAnd, Exs.evOr, Exs.evTAnd, Exs.evTOr, Ox.ev, Ox.evT, Lx.ev, It.ev, v_c, v_bin, v_cmp, v_bl, v_isN, v_ntN, v_not, v_tru, v_asB, v_and, v_or, v_if, v_tup, v_nil, v_cons, v_sub, v_onone, v_osome, v_slice, v_call, v_glb, v_ofE, v_disp, v_cat, v_bi1, v_biL, v_isi, v_inS, v_sidx, v_join, v_subL, v_new, v_dct, v_lenSet, v_yes, v_itL, v_itA, v_itR1, v_itR2, v_lc, q_v_asg, q_v_par, q_v_setD, q_v_expr, q_v_app, q_v_if, q_v_for, q_v_ret, o_add, o_sub, c_lt, c_le, c_gt, c_ge, a_add, R.bind_ok, R.bind_ex, R.bind_bad, R.st_ok, R.st_ex, R.st_bad, RS.seq_nx, RS.seq_rt, RS.seq_ex, RS.seq_bk, RS.seq_ct, RS.seq_bad, optR_some, optR_none, Tg.set, setAll, asB, Lt.truthy, isNon, biLE, getL_tmp, getM_tmp, Option.isSome_some, reduceIte, if_true, if_false, Bool.false_eq_true, Option.map_some, w0, w1, w2, w3, w4, w5, w6, w7, w8, w9, w10, w11, w12, w13, w14, w15, w16, w17, w18, w19, w20, w21, w22, w23, w24, x0, x1, x2, x3, x4, x5, x6, x7, x8, x9, x10, x11, x12, x13, x14, x15, x16, x17, x18, x19, x20, x21, x22, x23, x24, z0, z1, z2, z3, z4, z5, z6, z7, z8, z9, z10, z11, z12, z13, z14, z15, z16, z17, z18, z19, z20, z21, z22, z23, z24, y0, y1, y2, y3, y4, y5, y6, y7, y8, y9, y10, y11, y12, y13, y14, y15, y16, y17, y18, y19, y20, y21, y22, y23, y24, b10, h1, h2, hcut, c1, hlen, bi1E, c2, h3, c3, h4]
          rw [e]
          exact ⟨J, rfl⟩
        | some p =>
          obtain ⟨x, l2⟩ := p
          rw [hd] at h4
          have h4 : (Pn (k + 2)).cl 6 [.tup (nats (r2.take size)), .int 0] H = .ok (.tup [x.e, .int (((r2.take size).length - l2.length : Nat) : Int)]) H := h4
          obtain ⟨⟨q, hq⟩, _⟩ := dec_suffix hd
          have hl2 : l2.length ≤ size := by
            have := congrArg List.length hq
            rw [List.length_append, hbl] at this
            omega
          rw [hbl] at h4
          by_cases hn : l2 ≠ []
          · have hpos : 0 < l2.length := List.length_pos_iff.mpr hn
            simp only [if_pos hn]
            have c4 : cmpop .ne (.int ((size - l2.length : Nat) : Int)) (.int (size : Int)) = some true := by rw [c_neI, decide_eq_false (by omega)]; rfl
            have e : b10.ev (Pn (k + 2)) [some (.tup (nats row)), some (.int (at0 : Int)), none, none, none, none, none] H = .ex 0 [some (.tup (nats row)), some (.int ((row.length - r2.length : Nat) : Int)), some (.int (size : Int)), some (.int (check : Int)), some (.tup (nats (r2.take size))), some x.e, some (.int ((size - l2.length : Nat) : Int))] H := by
              simp -implicitDefEqProofs only [Stms.ev, Stm.ev, Ex.ev, Ex.evT, Exs.ev, Exs.evAnd, Exs.evOr, Exs.evTAnd, Exs.evTOr, Ox.ev, Ox.evT, Lx.ev, It.ev, v_c, v_bin, v_cmp, v_bl, v_isN, v_ntN, v_not, v_tru, v_asB, v_and, v_or, v_if, v_tup, v_nil, v_cons, v_sub, v_onone, v_osome, v_slice, v_call, v_glb, v_ofE, v_disp, v_cat, v_bi1, v_biL, v_isi, v_inS, v_sidx, v_join, v_subL, v_new, v_dct, v_lenSet, v_yes, v_itL, v_itA, v_itR1, v_itR2, v_lc, q_v_asg, q_v_par, q_v_setD, q_v_expr, q_v_app, q_v_if, q_v_for, q_v_ret, o_add, o_sub, c_lt, c_le, c_gt, c_ge, a_add, R.bind_ok, R.bind_ex, R.bind_bad, R.st_ok, R.st_ex, R.st_bad, RS.seq_nx, RS.seq_rt, RS.seq_ex, RS.seq_bk, RS.seq_ct, RS.seq_bad, optR_some, optR_none, Tg.set, setAll, asB, Lt.truthy, isNon, biLE, getL_tmp, getM_tmp, Option.isSome_some, reduceIte, if_true, if_false, Bool.false_eq_true, Option.map_some, w0, w1, w2, w3, w4, w5, w6, w7, w8, w9, w10, w11, w12, w13, w14, w15, w16, w17, w18, w19, w20, w21, w22, w23, w24, x0, x1, x2, x3, x4, x5, x6, x7, x8, x9, x10, x11, x12, x13, x14, x15, x16, x17, x18, x19, x20, x21, x22, x23, x24, z0, z1, z2, z3, z4, z5, z6, z7, z8, z9, z10, z11, z12, z13, z14, z15, z16, z17, z18, z19, z20, z21, z22, z23, z24, y0, y1, y2, y3, y4, y5, y6, y7, y8, y9, y10, y11, y12, y13, y14, y15, y16, y17, y18, y19, y20, y21, y22, y23, y24, b10, h1, h2, hcut, c1, hlen, bi1E, c2, h3, c3, h4, c4]
            rw [e]
            exact ⟨[], by rw [List.append_nil]; rfl⟩
          · have hl0 : l2 = [] := Classical.byContradiction hn
            subst hl0
            simp only [if_neg hn]
            have c4 : cmpop .ne (.int ((size - ([] : List Nat).length : Nat) : Int)) (.int (size : Int)) = some false := by rw [c_neI, decide_eq_true (by simp)]; rfl
            have e : b10.ev (Pn (k + 2)) [some (.tup (nats row)), some (.int (at0 : Int)), none, none, none, none, none] H = .rt (.tup [x.e, .int (((row.length - r2.length : Nat) : Int) + (size : Int))]) H := by
              simp -implicitDefEqProofs only [Stms.ev, Stm.ev, Ex.ev, Ex.evT, Exs.ev, Exs.evAnd, Exs.evOr, Exs.evTAnd, Exs.evTOr, Ox.ev, Ox.evT, Lx.ev, It.ev, v_c, v_bin, v_cmp, v_bl, v_isN, v_ntN, v_not, v_tru, v_asB, v_and, v_or, v_if, v_tup, v_nil, v_cons, v_sub, v_onone, v_osome, v_slice, v_call, v_glb, v_ofE, v_disp, v_cat, v_bi1, v_biL, v_isi, v_inS, v_sidx, v_join, v_subL, v_new, v_dct, v_lenSet, v_yes, v_itL, v_itA, v_itR1, v_itR2, v_lc, q_v_asg, q_v_par, q_v_setD, q_v_expr, q_v_app, q_v_if, q_v_for, q_v_ret, o_add, o_sub, c_lt, c_le, c_gt, c_ge, a_add, R.bind_ok, R.bind_ex, R.bind_bad, R.st_ok, R.st_ex, R.st_bad, RS.seq_nx, RS.seq_rt, RS.seq_ex, RS.seq_bk, RS.seq_ct, RS.seq_bad, optR_some, optR_none, Tg.set, setAll, asB, Lt.truthy, isNon, biLE, getL_tmp, getM_tmp, Option.isSome_some, reduceIte, if_true, if_false, Bool.false_eq_true, Option.map_some, w0, w1, w2, w3, w4, w5, w6, w7, w8, w9, w10, w11, w12, w13, w14, w15, w16, w17, w18, w19, w20, w21, w22, w23, w24, x0, x1, x2, x3, x4, x5, x6, x7, x8, x9, x10, x11, x12, x13, x14, x15, x16, x17, x18, x19, x20, x21, x22, x23, x24, z0, z1, z2, z3, z4, z5, z6, z7, z8, z9, z10, z11, z12, z13, z14, z15, z16, z17, z18, z19, z20, z21, z22, z23, z24, y0, y1, y2, y3, y4, y5, y6, y7, y8, y9, y10, y11, y12, y13, y14, y15, y16, y17, y18, y19, y20, y21, y22, y23, y24, b10, h1, h2, hcut, c1, hlen, bi1E, c2, h3, c3, h4, c4, s2]
            rw [e]
            have hle : size ≤ r2.length := by rw [List.length_take] at hbl; omega
            show endR true H (RS.rt (.tup [x.e, .int (((row.length - r2.length : Nat) : Int) + (size : Int))]) H) = .ok (.tup [x.e, .int ((row.length - (r2.drop size).length : Nat) : Int)]) H
            rw [show ((row.length - (r2.drop size).length : Nat) : Int) = ((row.length - r2.length : Nat) : Int) + (size : Int) by rw [List.length_drop]; omega]
            exact endR_rt0 (dat_pair x _)
end K01
end
section
set_option Elab.async false
set_option linter.all false
set_option maxRecDepth 100000
set_option maxHeartbeats 1000000
/-! k01, plain: what is put is taken again. -/
namespace K01
open PySem Lt
theorem num_lt {n : Nat} (h : n < 128) : num n = [n] := by unfold num; rw [numI_lt h]; rfl
theorem num_ge {n : Nat} (h : ¬ n < 128) : num n = (n % 128 + 128) :: num (n / 128) := by
  show (numI n).1 ++ [(numI n).2] = _
  rw [numI_ge h]; rfl
theorem dgo_num : ∀ (m n : Nat) (b : Bool) (f s : Nat) (r : List Nat), n ≤ m → (b = false → n ≠ 0) → dgo b f s (num n ++ r) = some (f + n * s, r)
  | 0, n, b, f, s, r, hm, hb => by
    have hn : n = 0 := by omega
    subst hn
    rw [num_lt (by omega)]
    cases b with
    | false => exact absurd rfl (hb rfl)
    | true => simp [dgo]
  | m + 1, n, b, f, s, r, hm, hb => by
    by_cases h : n < 128
    · rw [num_lt h]
      have hc : ¬ (n = 0 ∧ b = false) := fun ⟨h1, h2⟩ => hb h2 h1
      have e : n % 128 = n := Nat.mod_eq_of_lt h
      show (if n < 128 then (if n = 0 ∧ b = false then none else some (f + n % 128 * s, r)) else _) = _
      rw [if_pos h, if_neg hc, e]
    · rw [num_ge h]
      have ih := dgo_num m (n / 128) false (f + (n % 128 + 128) % 128 * s) (s * 128) r (by omega) (fun _ => by omega)
      show (if n % 128 + 128 < 128 then _ else dgo false (f + (n % 128 + 128) % 128 * s) (s * 128) (num (n / 128) ++ r)) = _
      rw [if_neg (by omega), ih]
      have e1 : (n % 128 + 128) % 128 = n % 128 := by omega
      have e2 : n * s = n % 128 * s + n / 128 * (s * 128) := by
        have h3 : n = n % 128 + n / 128 * 128 := by omega
        calc n * s = (n % 128 + n / 128 * 128) * s := by rw [← h3]
          _ = n % 128 * s + n / 128 * 128 * s := Nat.add_mul _ _ _
          _ = _ := by rw [Nat.mul_assoc, Nat.mul_comm 128 s]
      rw [e1, e2, Nat.add_assoc]
theorem dnum_num (n : Nat) (r : List Nat) : dnum (num n ++ r) = some (n, r) := by
  have h := dgo_num n n true 0 1 r (Nat.le_refl _) (fun h => by cases h)
  unfold dnum
  rw [h]
  simp
theorem dtxt_put {l r : List Nat} (h : ∀ i ∈ l, i < 91) : dtxt (num l.length ++ (l ++ r)) = some (l, r) := by
  unfold dtxt
  rw [dnum_num]
  have e1 : (l ++ r).take l.length = l := by simp
  have e2 : (l ++ r).drop l.length = r := by simp
  have e3 : (l.all fun a => decide (a < 91)) = true := List.all_eq_true.mpr fun i hi => decide_eq_true (h i hi)
  simp only [e1, e2, e3]
  simp
theorem dec_m0 (left : Nat) (r : List Nat) : dec (left + 1) (0 :: r) = some (.non, r) := rfl
theorem dec_m1 (left : Nat) (r : List Nat) : dec (left + 1) (1 :: r) = (dnum r).map (fun p => (Th.num p.1, p.2)) := rfl
theorem dec_m2 (left : Nat) (r : List Nat) : dec (left + 1) (2 :: r) = (dtxt r).map (fun p => (Th.str p.1, p.2)) := rfl
theorem dec_m3 {left : Nat} {r : List Nat} {n : Nat} {r2 : List Nat} (h : dnum r = some (n, r2)) : dec (left + 1) (3 :: r) = (rep (dec left) n r2).map (fun p => (Th.tup p.1, p.2)) := by
  unfold dec
  dsimp only
  rw [if_neg (by omega), if_neg (by omega), if_neg (by omega), if_pos rfl, h]
theorem dec_m3n {left : Nat} {r : List Nat} (h : dnum r = none) : dec (left + 1) (3 :: r) = none := by
  unfold dec
  dsimp only
  rw [if_neg (by omega), if_neg (by omega), if_neg (by omega), if_pos rfl, h]
theorem dec_mx {left m : Nat} {r : List Nat} (h : 4 ≤ m) : dec (left + 1) (m :: r) = none := by
  unfold dec
  dsimp only
  rw [if_neg (by omega), if_neg (by omega), if_neg (by omega), if_neg (by omega)]
theorem rep_some {f : List Nat → Option (Th × List Nat)} {n : Nat} {l r r2 : List Nat} {x : Th} {xs : List Th} (h : f l = some (x, r)) (h2 : rep f n r = some (xs, r2)) : rep f (n + 1) l = some (x :: xs, r2) := by
  show (match f l with
      | none => none
      | some (x, r) => match rep f n r with
        | none => none
        | some (xs, r2) => some (x :: xs, r2)) = _
  rw [h]
  show (match rep f n r with
        | none => none
        | some (xs, r2) => some (x :: xs, r2)) = _
  rw [h2]
mutual
theorem dec_enc : ∀ (x : Th) (left : Nat) (r : List Nat), x.dep ≤ left → x.fit → dec left (enc x ++ r) = some (x, r)
  | .non, 0, r, hd, _ => by unfold Th.dep at hd; omega
  | .num _, 0, r, hd, _ => by unfold Th.dep at hd; omega
  | .str _, 0, r, hd, _ => by unfold Th.dep at hd; omega
  | .tup _, 0, r, hd, _ => by unfold Th.dep at hd; omega
  | .non, left + 1, r, _, _ => by
    unfold enc
    exact dec_m0 left r
  | .num n, left + 1, r, _, _ => by
    unfold enc
    rw [List.cons_append, dec_m1, dnum_num]
    rfl
  | .str l, left + 1, r, _, hf => by
    unfold Th.fit at hf
    unfold enc
    rw [List.cons_append, dec_m2, List.append_assoc, dtxt_put hf.2]
    rfl
  | .tup xs, left + 1, r, hd, hf => by
    unfold Th.fit at hf
    unfold Th.dep at hd
    have ih := rep_encs xs left r (by omega) hf.2
    unfold enc
    rw [List.cons_append, List.append_assoc, dec_m3 (dnum_num _ _), ih]
    rfl
theorem rep_encs : ∀ (xs : List Th) (left : Nat) (r : List Nat), Th.deps xs ≤ left → Th.fits xs → rep (dec left) xs.length (encs xs ++ r) = some (xs, r)
  | [], left, r, _, _ => by
    unfold encs
    rfl
  | x :: xs, left, r, hd, hf => by
    unfold Th.deps at hd
    unfold Th.fits at hf
    unfold encs
    rw [List.append_assoc]
    exact rep_some (dec_enc x left (encs xs ++ r) (by omega) hf.1) (rep_encs xs left r (by omega) hf.2)
end
theorem num_ne (n : Nat) : num n ≠ [] := by unfold num; simp
theorem enc_pos (x : Th) : 1 ≤ (enc x).length := by cases x <;> simp [enc]
theorem dsld_sld {x : Th} {r : List Nat} (hd : x.dep ≤ 40) (hf : x.fit) : dsld (sld x ++ r) = some (x, r) := by
  have hp := enc_pos x
  have h1 := dec_enc x 40 [] hd hf
  rw [List.append_nil] at h1
  unfold dsld sld
  rw [List.append_assoc, List.append_assoc, dnum_num]
  dsimp only
  rw [dnum_num]
  dsimp only
  have e1 : (enc x ++ r).take (enc x).length = enc x := by simp
  have e2 : (enc x ++ r).drop (enc x).length = r := by simp
  rw [e1, e2, if_neg (by simp; intro h; rw [h] at hp; simp at hp), h1]
  simp
end K01
end
section
set_option Elab.async false
set_option linter.all false
set_option maxRecDepth 100000
set_option maxHeartbeats 1000000
/-! k01: the law's own bytes. -/
namespace K01
open PySem Lt
theorem lnum_turn {k n : Nat} {H : Hq} {acc : List E} (ha : acc.length < 1000) : b14_1.ev (Pn k) [some (.int (n : Int)), some (.ref H.length)] (H ++ [.lst acc]) = .nx [some (.int ((n / 128 : Nat) : Int)), some (.ref H.length)] (H ++ [.lst (acc ++ [.int ((n % 128 + 128 : Nat) : Int)])]) := by
  have hl : acc.length < sizeLine := by rw [sizeLine_eq]; omega
  have e1 : ((n : Int)) % 128 + 128 = ((n % 128 + 128 : Nat) : Int) := by omega
  have e2 : (n : Int) / 128 = ((n / 128 : Nat) : Int) := by omega
  rw [← e1, ← e2]
  simp [b14_1, Stms.ev, Stm.ev, Ex.ev, o_mod, getL_new, hl, a_fdiv, bi1E, Tg.set, o_fdiv]
theorem lnum_loop {k : Nat} {H : Hq} : ∀ (fuel n : Nat) (acc : List E), (numI n).1.length < fuel → acc.length + (numI n).1.length < 1000 →
    whilS (b14_0.evT (Pn k)) (b14_1.ev (Pn k)) fuel [some (.int (n : Int)), some (.ref H.length)] (H ++ [.lst acc]) = .nx [some (.int ((numI n).2 : Int)), some (.ref H.length)] (H ++ [.lst (acc ++ nats (numI n).1)])
  | 0, n, acc, h, _ => by omega
  | fuel + 1, n, acc, h, ha => by
    unfold whilS
    have hc : b14_0.evT (Pn k) [some (.int (n : Int)), some (.ref H.length)] (H ++ [.lst acc]) = .ok (decide ((n : Int) ≥ 128)) (H ++ [.lst acc]) := by
      simp [b14_0, Ex.evT, Ex.ev]
    rw [hc]
    simp only [R.st_ok]
    by_cases hn : n < 128
    · rw [if_neg (by simp; omega), numI_lt hn]
      simp [nats]
    · rw [if_pos (by simp; omega), numI_ge hn] at *
      rw [List.length_cons] at h ha
      rw [lnum_turn (by omega)]
      simp only []
      rw [lnum_loop fuel (n / 128) _ (by omega) (by simp; omega)]
      rw [List.append_assoc]
      rfl
theorem law_number_ok {k n : Nat} {H : Hq} (hn : n < 128 ^ 100) : cl (k + 1) 14 [.int (n : Int)] H = .ok (.tup (nats (num n))) H := by
  have hl : (numI n).1.length ≤ 99 := numI_len 99 n hn
  rw [cl_succ (fn := f14) rfl rfl]
  show endR true H (b14.ev (Pn k) [some (.int (n : Int)), none] H) = _
  have e : b14.ev (Pn k) [some (.int (n : Int)), none] H = .rt (.tup (nats (num n))) (H ++ [.lst (nats (numI n).1)]) := by
    have hlp := lnum_loop (k := k) (H := H) 100000 n [] (by omega) (by simp; omega)
    have hs : sizeLine = 16777216 := sizeLine_eq
    have hsz : (numI n).1.length ≤ 16777215 := by omega
    simp only [List.nil_append] at hlp
    have hwf : (Pn k).wf = 100000 := rfl
    simp [b14, Stms.ev, Stm.ev, Ex.evT, Ex.ev, Exs.ev, Lx.ev, Tg.set, hwf, hlp, getL_new, getM_new, hs, nats_len, num, biLE, nats_app, hsz]
    rfl
  rw [e]
  exact endR_rt (dat_nats _)
theorem lbytes_turn {k : Nat} {x th : E} {H : Hq} {f c : List Nat} {v : Option E} (hc : (Pn k).cl 15 [x] H = .ok (.tup (nats c)) H) (hl : f.length + c.length ≤ 16777216) :
    b15_0.ev (Pn k) [some th, some (.tup (nats f)), some x, none, none] H = .nx [some th, some (.tup (nats (f ++ c))), some x, none, none] H := by
  simp -implicitDefEqProofs only [Stms.ev, Stm.ev, Ex.ev, Ex.evT, Exs.ev, Exs.evAnd, Exs.evOr, Exs.evTAnd, Exs.evTOr, Ox.ev, Ox.evT, Lx.ev, It.ev, v_c, v_bin, v_cmp, v_bl, v_isN, v_ntN, v_not, v_tru, v_asB, v_and, v_or, v_if, v_tup, v_nil, v_cons, v_sub, v_onone, v_osome, v_slice, v_call, v_glb, v_ofE, v_disp, v_cat, v_bi1, v_biL, v_isi, v_inS, v_sidx, v_join, v_subL, v_new, v_dct, v_lenSet, v_yes, v_itL, v_itA, v_itR1, v_itR2, v_lc, q_v_asg, q_v_par, q_v_setD, q_v_expr, q_v_app, q_v_if, q_v_for, q_v_ret, o_add, o_sub, c_lt, c_le, c_gt, c_ge, a_add, R.bind_ok, R.bind_ex, R.bind_bad, R.st_ok, R.st_ex, R.st_bad, RS.seq_nx, RS.seq_rt, RS.seq_ex, RS.seq_bk, RS.seq_ct, RS.seq_bad, optR_some, optR_none, Tg.set, setAll, asB, Lt.truthy, isNon, biLE, getL_tmp, getM_tmp, Option.isSome_some, reduceIte, if_true, if_false, Bool.false_eq_true, Option.map_some, w0, w1, w2, w3, w4, w5, w6, w7, w8, w9, w10, w11, w12, w13, w14, w15, w16, w17, w18, w19, w20, w21, w22, w23, w24, x0, x1, x2, x3, x4, x5, x6, x7, x8, x9, x10, x11, x12, x13, x14, x15, x16, x17, x18, x19, x20, x21, x22, x23, x24, z0, z1, z2, z3, z4, z5, z6, z7, z8, z9, z10, z11, z12, z13, z14, z15, z16, z17, z18, z19, z20, z21, z22, z23, z24, y0, y1, y2, y3, y4, y5, y6, y7, y8, y9, y10, y11, y12, y13, y14, y15, y16, y17, y18, y19, y20, y21, y22, y23, y24, b15_0, hc, o_addT (show (nats f).length + (nats c).length ≤ 16777216 by rw [nats_len, nats_len]; exact hl), ← nats_app]
theorem lbytes_loop {k : Nat} {th : E} {H : Hq} {all : List E} : ∀ (xs : List Th) (f : List Nat) (v : Option E), (∀ x ∈ xs, (Pn k).cl 15 [x.e] H = .ok (.tup (nats (enc x))) H) → f.length + (encs xs).length ≤ 16777216 →
    ∃ v', forS none all (.name ⟨2, "part", ⟨140, 12, 140, 16⟩⟩) (b15_0.ev (Pn k)) (Th.es xs) [some th, some (.tup (nats f)), v, none, none] H = .nx [some th, some (.tup (nats (f ++ encs xs))), v', none, none] H
  | [], f, v, _, _ => ⟨v, by
    show forS none all _ _ [] _ H = _
    rw [for_end rfl]
    show _ = RS.nx [some th, some (.tup (nats (f ++ []))), v, none, none] H
    rw [List.append_nil]⟩
  | x :: r, f, v, hx, hl => by
    have hl2 : (encs (x :: r)).length = (enc x).length + (encs r).length := by
      show (enc x ++ encs r).length = _
      rw [List.length_append]
    have hxx := hx x List.mem_cons_self
    obtain ⟨v', h⟩ := lbytes_loop (k := k) (th := th) (H := H) (all := all) r (f ++ enc x) (some x.e) (fun y hy => hx y (List.mem_cons_of_mem _ hy)) (by rw [List.length_append]; omega)
    refine ⟨v', ?_⟩
    show forS none all _ _ (x.e :: Th.es r) _ H = _
    rw [for_nx rfl rfl (lbytes_turn (v := v) hxx (by omega)), h, List.append_assoc]
    rfl
/-- the law's bytes are the same -/
theorem law_bytes_ok : ∀ (d : Nat) (th : Th) (k : Nat) (H : Hq), th.dep ≤ d → d + 2 ≤ k → th.fit → (enc th).length ≤ 16000000 → cl (k + 1) 15 [th.e] H = .ok (.tup (nats (enc th))) H
  | 0, th, k, H, h, _, _, _ => by
    have : 1 ≤ th.dep := by cases th <;> (show (1 : Nat) ≤ _; unfold Th.dep; omega)
    omega
  | d + 1, th, k, H, h, hk, hf, hlen => by
    rw [cl_succ (fn := f15) rfl rfl]
    show endR true H (b15.ev (Pn k) [some th.e, none, none, none, none] H) = _
    have s1 : ∀ x : E, [x].length ≤ sizeLine := fun x => le_line (by simp)
    obtain ⟨k, rfl⟩ : ∃ k', k = k' + 1 := ⟨k - 1, by omega⟩
    cases th with
    | non =>
      have e : b15.ev (Pn (k + 1)) [some Th.non.e, none, none, none, none] H = .rt (.tup (nats (enc .non))) H := by
        simp -implicitDefEqProofs only [Stms.ev, Stm.ev, Ex.ev, Ex.evT, Exs.ev, Exs.evAnd, Exs.evOr, Exs.evTAnd, Exs.evTOr, Ox.ev, Ox.evT, Lx.ev, It.ev, v_c, v_bin, v_cmp, v_bl, v_isN, v_ntN, v_not, v_tru, v_asB, v_and, v_or, v_if, v_tup, v_nil, v_cons, v_sub, v_onone, v_osome, v_slice, v_call, v_glb, v_ofE, v_disp, v_cat, v_bi1, v_biL, v_isi, v_inS, v_sidx, v_join, v_subL, v_new, v_dct, v_lenSet, v_yes, v_itL, v_itA, v_itR1, v_itR2, v_lc, q_v_asg, q_v_par, q_v_setD, q_v_expr, q_v_app, q_v_if, q_v_for, q_v_ret, o_add, o_sub, c_lt, c_le, c_gt, c_ge, a_add, R.bind_ok, R.bind_ex, R.bind_bad, R.st_ok, R.st_ex, R.st_bad, RS.seq_nx, RS.seq_rt, RS.seq_ex, RS.seq_bk, RS.seq_ct, RS.seq_bad, optR_some, optR_none, Tg.set, setAll, asB, Lt.truthy, isNon, biLE, getL_tmp, getM_tmp, Option.isSome_some, reduceIte, if_true, if_false, Bool.false_eq_true, Option.map_some, w0, w1, w2, w3, w4, w5, w6, w7, w8, w9, w10, w11, w12, w13, w14, w15, w16, w17, w18, w19, w20, w21, w22, w23, w24, x0, x1, x2, x3, x4, x5, x6, x7, x8, x9, x10, x11, x12, x13, x14, x15, x16, x17, x18, x19, x20, x21, x22, x23, x24, z0, z1, z2, z3, z4, z5, z6, z7, z8, z9, z10, z11, z12, z13, z14, z15, z16, z17, z18, z19, z20, z21, z22, z23, z24, y0, y1, y2, y3, y4, y5, y6, y7, y8, y9, y10, y11, y12, y13, y14, y15, y16, y17, y18, y19, y20, y21, y22, y23, y24, b15, Th.e, s1, enc, nats_cons]
        rfl
      rw [e]; exact endR_rt0 (dat_nats _)
    | num n =>
      have hcl := law_number_ok (k := k) (H := H) (small100 hf)
      rw [← par_cl] at hcl
      have t1 : isiE .str (.int (n : Int)) = some false := rfl
      have t2 : isiE .tup (.int (n : Int)) = some false := rfl
      have hl : (enc (.num n)).length = 1 + (num n).length := by
        show (1 :: num n).length = _
        rw [List.length_cons]; omega
      have e : b15.ev (Pn (k + 1)) [some (Th.num n).e, none, none, none, none] H = .rt (.tup (nats (enc (.num n)))) H := by
        simp -implicitDefEqProofs only [Stms.ev, Stm.ev, Ex.ev, Ex.evT, Exs.ev, Exs.evAnd, Exs.evOr, Exs.evTAnd, Exs.evTOr, Ox.ev, Ox.evT, Lx.ev, It.ev, v_c, v_bin, v_cmp, v_bl, v_isN, v_ntN, v_not, v_tru, v_asB, v_and, v_or, v_if, v_tup, v_nil, v_cons, v_sub, v_onone, v_osome, v_slice, v_call, v_glb, v_ofE, v_disp, v_cat, v_bi1, v_biL, v_isi, v_inS, v_sidx, v_join, v_subL, v_new, v_dct, v_lenSet, v_yes, v_itL, v_itA, v_itR1, v_itR2, v_lc, q_v_asg, q_v_par, q_v_setD, q_v_expr, q_v_app, q_v_if, q_v_for, q_v_ret, o_add, o_sub, c_lt, c_le, c_gt, c_ge, a_add, R.bind_ok, R.bind_ex, R.bind_bad, R.st_ok, R.st_ex, R.st_bad, RS.seq_nx, RS.seq_rt, RS.seq_ex, RS.seq_bk, RS.seq_ct, RS.seq_bad, optR_some, optR_none, Tg.set, setAll, asB, Lt.truthy, isNon, biLE, getL_tmp, getM_tmp, Option.isSome_some, reduceIte, if_true, if_false, Bool.false_eq_true, Option.map_some, w0, w1, w2, w3, w4, w5, w6, w7, w8, w9, w10, w11, w12, w13, w14, w15, w16, w17, w18, w19, w20, w21, w22, w23, w24, x0, x1, x2, x3, x4, x5, x6, x7, x8, x9, x10, x11, x12, x13, x14, x15, x16, x17, x18, x19, x20, x21, x22, x23, x24, z0, z1, z2, z3, z4, z5, z6, z7, z8, z9, z10, z11, z12, z13, z14, z15, z16, z17, z18, z19, z20, z21, z22, z23, z24, y0, y1, y2, y3, y4, y5, y6, y7, y8, y9, y10, y11, y12, y13, y14, y15, y16, y17, y18, y19, y20, y21, y22, y23, y24, b15, Th.e, s1, t1, t2, hcl, o_addT (show [E.int 1].length + (nats (num n)).length ≤ 16777216 by rw [nats_len]; simp; omega)]
        rfl
      rw [e]; exact endR_rt0 (dat_nats _)
    | str l =>
      have hf1 : l.length ≤ 1000 := hf.1
      have hf2 : ∀ i ∈ l, i < 91 := hf.2
      have hcl := law_number_ok (k := k) (n := l.length) (H := H) (small100 (small9 (by omega)))
      rw [← par_cl] at hcl
      have t1 : isiE .str (.str (txt l)) = some true := rfl
      have hnl : (num l.length).length ≤ 9 := num_len (small9 (by omega))
      have hlenE : lenE H (.str (txt l)) = some l.length := by
        show (if (txt l).length ≤ sizeLine then some (txt l).length else none) = _
        rw [if_pos (by rw [txt_len]; exact le_line (by omega)), txt_len]
      have e2 : lcS none (signs (txt l)) (.name ⟨4, "sign", ⟨137, 80, 137, 84⟩⟩) sYes (b15_1.ev (Pn (k + 1))) [some (.str (txt l)), none, none, none, none] (signs (txt l)) [] H = .ok (nats l) H := by
        have := lc_map (H := H) (g := fun i => E.str (sg i)) (f := fun (i : Nat) => E.int (i : Int)) (c := sYes) (e := b15_1.ev (Pn (k + 1))) (n := ⟨4, "sign", ⟨137, 80, 137, 84⟩⟩) (ρ := [some (.str (txt l)), none, none, none, none]) (all := signs (txt l)) (fun _ => rfl) l [] (fun i hi => by
          have hin := ix_AL i (hf2 i hi)
          simp -implicitDefEqProofs only [Stms.ev, Stm.ev, Ex.ev, Ex.evT, Exs.ev, Exs.evAnd, Exs.evOr, Exs.evTAnd, Exs.evTOr, Ox.ev, Ox.evT, Lx.ev, It.ev, v_c, v_bin, v_cmp, v_bl, v_isN, v_ntN, v_not, v_tru, v_asB, v_and, v_or, v_if, v_tup, v_nil, v_cons, v_sub, v_onone, v_osome, v_slice, v_call, v_glb, v_ofE, v_disp, v_cat, v_bi1, v_biL, v_isi, v_inS, v_sidx, v_join, v_subL, v_new, v_dct, v_lenSet, v_yes, v_itL, v_itA, v_itR1, v_itR2, v_lc, q_v_asg, q_v_par, q_v_setD, q_v_expr, q_v_app, q_v_if, q_v_for, q_v_ret, o_add, o_sub, c_lt, c_le, c_gt, c_ge, a_add, R.bind_ok, R.bind_ex, R.bind_bad, R.st_ok, R.st_ex, R.st_bad, RS.seq_nx, RS.seq_rt, RS.seq_ex, RS.seq_bk, RS.seq_ct, RS.seq_bad, optR_some, optR_none, Tg.set, setAll, asB, Lt.truthy, isNon, biLE, getL_tmp, getM_tmp, Option.isSome_some, reduceIte, if_true, if_false, Bool.false_eq_true, Option.map_some, w0, w1, w2, w3, w4, w5, w6, w7, w8, w9, w10, w11, w12, w13, w14, w15, w16, w17, w18, w19, w20, w21, w22, w23, w24, x0, x1, x2, x3, x4, x5, x6, x7, x8, x9, x10, x11, x12, x13, x14, x15, x16, x17, x18, x19, x20, x21, x22, x23, x24, z0, z1, z2, z3, z4, z5, z6, z7, z8, z9, z10, z11, z12, z13, z14, z15, z16, z17, z18, z19, z20, z21, z22, z23, z24, y0, y1, y2, y3, y4, y5, y6, y7, y8, y9, y10, y11, y12, y13, y14, y15, y16, y17, y18, y19, y20, y21, y22, y23, y24, b15_1, glb0, hin]) (by simp; omega)
        rw [signs_txt] at this ⊢
        exact this
      have e : b15.ev (Pn (k + 1)) [some (Th.str l).e, none, none, none, none] H = .rt (.tup (nats (2 :: (num l.length ++ l)))) H := by
        simp -implicitDefEqProofs only [Stms.ev, Stm.ev, Ex.ev, Ex.evT, Exs.ev, Exs.evAnd, Exs.evOr, Exs.evTAnd, Exs.evTOr, Ox.ev, Ox.evT, Lx.ev, It.ev, v_c, v_bin, v_cmp, v_bl, v_isN, v_ntN, v_not, v_tru, v_asB, v_and, v_or, v_if, v_tup, v_nil, v_cons, v_sub, v_onone, v_osome, v_slice, v_call, v_glb, v_ofE, v_disp, v_cat, v_bi1, v_biL, v_isi, v_inS, v_sidx, v_join, v_subL, v_new, v_dct, v_lenSet, v_yes, v_itL, v_itA, v_itR1, v_itR2, v_lc, q_v_asg, q_v_par, q_v_setD, q_v_expr, q_v_app, q_v_if, q_v_for, q_v_ret, o_add, o_sub, c_lt, c_le, c_gt, c_ge, a_add, R.bind_ok, R.bind_ex, R.bind_bad, R.st_ok, R.st_ex, R.st_bad, RS.seq_nx, RS.seq_rt, RS.seq_ex, RS.seq_bk, RS.seq_ct, RS.seq_bad, optR_some, optR_none, Tg.set, setAll, asB, Lt.truthy, isNon, biLE, getL_tmp, getM_tmp, Option.isSome_some, reduceIte, if_true, if_false, Bool.false_eq_true, Option.map_some, w0, w1, w2, w3, w4, w5, w6, w7, w8, w9, w10, w11, w12, w13, w14, w15, w16, w17, w18, w19, w20, w21, w22, w23, w24, x0, x1, x2, x3, x4, x5, x6, x7, x8, x9, x10, x11, x12, x13, x14, x15, x16, x17, x18, x19, x20, x21, x22, x23, x24, z0, z1, z2, z3, z4, z5, z6, z7, z8, z9, z10, z11, z12, z13, z14, z15, z16, z17, z18, z19, z20, z21, z22, z23, z24, y0, y1, y2, y3, y4, y5, y6, y7, y8, y9, y10, y11, y12, y13, y14, y15, y16, y17, y18, y19, y20, y21, y22, y23, y24, b15, Th.e, s1, t1, wipeR, List.map_cons, List.map_nil, itE, e2, hlenE, bi1E, hcl, o_addT (show [E.int 2].length + (nats (num l.length)).length ≤ 16777216 by rw [nats_len]; simp; omega), o_addT (show ([E.int 2] ++ nats (num l.length)).length + (nats l).length ≤ 16777216 by rw [List.length_append, nats_len, nats_len]; simp; omega)]
        rw [List.append_assoc, ← nats_app]
        rfl
      rw [e]; exact endR_rt0 (dat_nats _)
    | tup xs =>
      have hcl := law_number_ok (k := k) (n := xs.length) (H := H) (small100 (small9 (by have := hf.1; omega)))
      rw [← par_cl] at hcl
      have t1 : isiE .str (.tup (Th.es xs)) = some false := rfl
      have t2 : isiE .tup (.tup (Th.es xs)) = some true := rfl
      have hl : (enc (.tup xs)).length = 1 + (num xs.length).length + (encs xs).length := by
        show (3 :: (num xs.length ++ encs xs)).length = _
        rw [List.length_cons, List.length_append]; omega
      have hlen2 : lenE H (.tup (Th.es xs)) = some xs.length := by show some (Th.es xs).length = _; rw [es_len]
      have hd : Th.deps xs ≤ d := by have : Th.deps xs + 1 ≤ d + 1 := h; omega
      have hmem : ∀ x ∈ xs, (Pn (k + 1)).cl 15 [x.e] H = .ok (.tup (nats (enc x))) H := by
        intro x hx
        have g1 : x.dep ≤ Th.deps xs := dep_mem hx
        have g2 : x.fit := fit_mem hf.2 hx
        have g3 : (enc x).length ≤ (encs xs).length := enc_mem hx
        exact law_bytes_ok d x k H (by omega) (by omega) g2 (by omega)
      obtain ⟨v', hlp⟩ := lbytes_loop (k := k + 1) (th := .tup (Th.es xs)) (H := H) (all := Th.es xs) xs (3 :: num xs.length) none hmem (by rw [List.length_cons]; omega)
      have e : b15.ev (Pn (k + 1)) [some (Th.tup xs).e, none, none, none, none] H = .rt (.tup (nats (enc (.tup xs)))) H := by
        have hf3 : [E.int 3] ++ nats (num xs.length) = nats (3 :: num xs.length) := rfl
        simp -implicitDefEqProofs only [Stms.ev, Stm.ev, Ex.ev, Ex.evT, Exs.ev, Exs.evAnd, Exs.evOr, Exs.evTAnd, Exs.evTOr, Ox.ev, Ox.evT, Lx.ev, It.ev, v_c, v_bin, v_cmp, v_bl, v_isN, v_ntN, v_not, v_tru, v_asB, v_and, v_or, v_if, v_tup, v_nil, v_cons, v_sub, v_onone, v_osome, v_slice, v_call, v_glb, v_ofE, v_disp, v_cat, v_bi1, v_biL, v_isi, v_inS, v_sidx, v_join, v_subL, v_new, v_dct, v_lenSet, v_yes, v_itL, v_itA, v_itR1, v_itR2, v_lc, q_v_asg, q_v_par, q_v_setD, q_v_expr, q_v_app, q_v_if, q_v_for, q_v_ret, o_add, o_sub, c_lt, c_le, c_gt, c_ge, a_add, R.bind_ok, R.bind_ex, R.bind_bad, R.st_ok, R.st_ex, R.st_bad, RS.seq_nx, RS.seq_rt, RS.seq_ex, RS.seq_bk, RS.seq_ct, RS.seq_bad, optR_some, optR_none, Tg.set, setAll, asB, Lt.truthy, isNon, biLE, getL_tmp, getM_tmp, Option.isSome_some, reduceIte, if_true, if_false, Bool.false_eq_true, Option.map_some, w0, w1, w2, w3, w4, w5, w6, w7, w8, w9, w10, w11, w12, w13, w14, w15, w16, w17, w18, w19, w20, w21, w22, w23, w24, x0, x1, x2, x3, x4, x5, x6, x7, x8, x9, x10, x11, x12, x13, x14, x15, x16, x17, x18, x19, x20, x21, x22, x23, x24, z0, z1, z2, z3, z4, z5, z6, z7, z8, z9, z10, z11, z12, z13, z14, z15, z16, z17, z18, z19, z20, z21, z22, z23, z24, y0, y1, y2, y3, y4, y5, y6, y7, y8, y9, y10, y11, y12, y13, y14, y15, y16, y17, y18, y19, y20, y21, y22, y23, y24, b15, Th.e, s1, t1, t2, hlen2, bi1E, hcl, o_addT (show [E.int 3].length + (nats (num xs.length)).length ≤ 16777216 by rw [nats_len]; simp; omega), hf3, itE, hlp]
        rfl
      rw [e]; exact endR_rt0 (dat_nats _)
end K01
end
section
set_option Elab.async false
set_option linter.all false
set_option maxRecDepth 100000
set_option maxHeartbeats 1000000
/-! k01: the law's tape. -/
namespace K01
open PySem Lt
def hdS : Stms → Stm
  | .cons s _ => s
  | .nil => .pas ⟨0, 0, 0, 0⟩
def tlS : Stms → Stms
  | .cons _ r => r
  | .nil => .nil
theorem ev_hd {P : Par} {s : Stm} {r : Stms} {ρ : Ro} {H : Hq} : (Stms.cons s r).ev P ρ H = (s.ev P ρ H).seq (r.ev P) := rfl
abbrev TD (c : Nat) (a l s z : Int) : Ob := .dct [("cells", .ref c), ("at", .int a), ("left", .int l), ("seed", .int s), ("salt", .int z)]
theorem sub_dct {G : Hq} {t : Nat} {k : Str} {kvs : List (Str × E)} (h : G[t]? = some (.dct kvs)) : subE G (.ref t) (.str k) = kvs.lookup k := by
  show (match G[t]? with | some (.dct kvs) => kvs.lookup k | _ => none) = _
  rw [h]
theorem sub_lst {G : Hq} {t : Nat} {i : Int} {xs : List E} (h : G[t]? = some (.lst xs)) : subE G (.ref t) (.int i) = L2.atI xs i := by
  show (match G[t]? with | some (.lst xs) => L2.atI xs i | some (.rol xs) => L2.atI xs i | _ => none) = _
  rw [h]
theorem len_lst {G : Hq} {t : Nat} {xs : List E} (h : G[t]? = some (.lst xs)) : lenE G (.ref t) = some xs.length := by
  show (match G[t]? with | some (.lst xs) => some xs | some (.rol xs) => some xs | _ => none).map List.length = _
  rw [h]
  rfl
section
variable {H : Hq} {t c : Nat} {a l s z v : Int}
theorem g_T (ht : t < H.length) (D : Ob) : (H.set t D)[t]? = some D := by
  rw [List.getElem?_set_self ht]
theorem s_cells (ht : t < H.length) : subE (H.set t (TD c a l s z)) (.ref t) (.str "cells") = some (.ref c) := by
  rw [sub_dct (g_T ht _)]; rfl
theorem s_at (ht : t < H.length) : subE (H.set t (TD c a l s z)) (.ref t) (.str "at") = some (.int a) := by
  rw [sub_dct (g_T ht _)]; rfl
theorem s_left (ht : t < H.length) : subE (H.set t (TD c a l s z)) (.ref t) (.str "left") = some (.int l) := by
  rw [sub_dct (g_T ht _)]; rfl
theorem s_seed (ht : t < H.length) : subE (H.set t (TD c a l s z)) (.ref t) (.str "seed") = some (.int s) := by
  rw [sub_dct (g_T ht _)]; rfl
theorem s_salt (ht : t < H.length) : subE (H.set t (TD c a l s z)) (.ref t) (.str "salt") = some (.int z) := by
  rw [sub_dct (g_T ht _)]; rfl
theorem g_C {cs : List Int} (hc : H[c]? = some (.lst (cs.map E.int))) (hct : c ≠ t) (D : Ob) : (H.set t D)[c]? = some (.lst (cs.map E.int)) := by
  rw [List.getElem?_set_ne (Ne.symm hct), hc]
theorem s_len {cs : List Int} (hc : H[c]? = some (.lst (cs.map E.int))) (hct : c ≠ t) (D : Ob) : lenE (H.set t D) (.ref c) = some cs.length := by
  rw [len_lst (g_C hc hct D)]; simp
theorem s_cell {cs : List Int} {i : Nat} {x : Int} (hc : H[c]? = some (.lst (cs.map E.int))) (hct : c ≠ t) (hi : cs[i]? = some x) (D : Ob) : subE (H.set t D) (.ref c) (.int (i : Int)) = some (.int x) := by
  rw [sub_lst (g_C hc hct D)]
  exact atI_nat (by simp [hi])
theorem set_kv {P : Par} {ρ : Ro} {o k e : Sx E} {G G1 : Hq} {w : E} {key : Str} {kvs : List (Str × E)} (he : e ρ G = .ok w G1) (ho : o ρ G1 = .ok (.ref t) G1) (hk : k ρ G1 = .ok (.str key) G1) (hd : G1[t]? = some (.dct kvs)) (hl : kvs.length ≤ 100) :
    qSetD o k e ρ G = .nx ρ (G1.set t (.dct (putS kvs key w))) := by
  unfold qSetD
  rw [he, R.st_ok, ho, R.st_ok, hk, R.st_ok]
  simp only [hd]
  rw [if_pos (by rw [sizeLine_eq]; omega)]
theorem p_at : putS ([(("cells" : Str), E.ref c), (("at" : Str), .int a), (("left" : Str), .int l), (("seed" : Str), .int s), (("salt" : Str), .int z)] : List (Str × E)) ("at" : Str) (.int v) = ([(("cells" : Str), E.ref c), (("at" : Str), .int v), (("left" : Str), .int l), (("seed" : Str), .int s), (("salt" : Str), .int z)] : List (Str × E)) := rfl
theorem p_left : putS ([(("cells" : Str), E.ref c), (("at" : Str), .int a), (("left" : Str), .int l), (("seed" : Str), .int s), (("salt" : Str), .int z)] : List (Str × E)) ("left" : Str) (.int v) = ([(("cells" : Str), E.ref c), (("at" : Str), .int a), (("left" : Str), .int v), (("seed" : Str), .int s), (("salt" : Str), .int z)] : List (Str × E)) := rfl
theorem p_salt : putS ([(("cells" : Str), E.ref c), (("at" : Str), .int a), (("left" : Str), .int l), (("seed" : Str), .int s), (("salt" : Str), .int z)] : List (Str × E)) ("salt" : Str) (.int v) = ([(("cells" : Str), E.ref c), (("at" : Str), .int a), (("left" : Str), .int l), (("seed" : Str), .int s), (("salt" : Str), .int v)] : List (Str × E)) := rfl
end
theorem sz5 (a b c d e : Str × E) : ([a, b, c, d, e].length < sizeLine) = True := by
  rw [sizeLine_eq]; simp
/-- a cell is taken up -/
theorem take_up {k t c i : Nat} {H : Hq} {cs : List Int} {m x s z : Int} (ht : t < H.length) (hc : H[c]? = some (.lst (cs.map E.int))) (hct : c ≠ t) (hi : cs[i]? = some x) :
    (hdS b12).ev (Pn k) [some (.ref t), some (.int m), none, none] (H.set t (TD c (i : Int) 0 s z)) = .nx [some (.ref t), some (.int m), none, none] (H.set t (TD c ((i : Int) + 1) x s z)) := by
  have h1 : decide ((i : Int) < (cs.length : Int)) = true := decide_eq_true (by have := (List.getElem?_eq_some_iff.mp hi).1; omega)
  have h2 : cmpop .eq (.int 0) (.int 0) = some true := by rw [c_eqI]; rfl
  simp -implicitDefEqProofs only [Stms.ev, Stm.ev, Ex.ev, Ex.evT, Exs.ev, Exs.evAnd, Exs.evOr, Exs.evTAnd, Exs.evTOr, Ox.ev, Ox.evT, Lx.ev, It.ev, v_c, v_bin, v_cmp, v_bl, v_isN, v_ntN, v_not, v_tru, v_asB, v_and, v_or, v_if, v_tup, v_nil, v_cons, v_sub, v_onone, v_osome, v_slice, v_call, v_glb, v_ofE, v_disp, v_cat, v_bi1, v_biL, v_isi, v_inS, v_sidx, v_join, v_subL, v_new, v_dct, v_lenSet, v_yes, v_itL, v_itA, v_itR1, v_itR2, v_lc, q_v_asg, q_v_par, q_v_setD, q_v_expr, q_v_app, q_v_if, q_v_for, q_v_ret, o_add, o_sub, c_lt, c_le, c_gt, c_ge, a_add, R.bind_ok, R.bind_ex, R.bind_bad, R.st_ok, R.st_ex, R.st_bad, RS.seq_nx, RS.seq_rt, RS.seq_ex, RS.seq_bk, RS.seq_ct, RS.seq_bad, optR_some, optR_none, Tg.set, setAll, asB, Lt.truthy, isNon, biLE, getL_tmp, getM_tmp, Option.isSome_some, reduceIte, if_true, if_false, Bool.false_eq_true, Option.map_some, w0, w1, w2, w3, w4, w5, w6, w7, w8, w9, w10, w11, w12, w13, w14, w15, w16, w17, w18, w19, w20, w21, w22, w23, w24, x0, x1, x2, x3, x4, x5, x6, x7, x8, x9, x10, x11, x12, x13, x14, x15, x16, x17, x18, x19, x20, x21, x22, x23, x24, z0, z1, z2, z3, z4, z5, z6, z7, z8, z9, z10, z11, z12, z13, z14, z15, z16, z17, z18, z19, z20, z21, z22, z23, z24, y0, y1, y2, y3, y4, y5, y6, y7, y8, y9, y10, y11, y12, y13, y14, y15, y16, y17, y18, y19, y20, y21, y22, y23, y24, b12, hdS, h1, h2, s_left ht, s_at ht, s_cells ht, s_len hc hct, s_cell hc hct hi, bi1E, g_T ht, sz5, p_left, p_at, List.set_set]
theorem take_no {k t c : Nat} {H : Hq} {cs : List Int} {m a l s z : Int} (ht : t < H.length) (hc : H[c]? = some (.lst (cs.map E.int))) (hct : c ≠ t) (h : l ≠ 0 ∨ (cs.length : Int) ≤ a) :
    (hdS b12).ev (Pn k) [some (.ref t), some (.int m), none, none] (H.set t (TD c a l s z)) = .nx [some (.ref t), some (.int m), none, none] (H.set t (TD c a l s z)) := by
  by_cases h0 : l = 0
  · have h1 : decide (a < (cs.length : Int)) = false := decide_eq_false (by omega)
    have h2 : decide (l = 0) = true := decide_eq_true h0
    simp -implicitDefEqProofs only [Stms.ev, Stm.ev, Ex.ev, Ex.evT, Exs.ev, Exs.evAnd, Exs.evOr, Exs.evTAnd, Exs.evTOr, Ox.ev, Ox.evT, Lx.ev, It.ev, v_c, v_bin, v_cmp, v_bl, v_isN, v_ntN, v_not, v_tru, v_asB, v_and, v_or, v_if, v_tup, v_nil, v_cons, v_sub, v_onone, v_osome, v_slice, v_call, v_glb, v_ofE, v_disp, v_cat, v_bi1, v_biL, v_isi, v_inS, v_sidx, v_join, v_subL, v_new, v_dct, v_lenSet, v_yes, v_itL, v_itA, v_itR1, v_itR2, v_lc, q_v_asg, q_v_par, q_v_setD, q_v_expr, q_v_app, q_v_if, q_v_for, q_v_ret, o_add, o_sub, c_lt, c_le, c_gt, c_ge, a_add, R.bind_ok, R.bind_ex, R.bind_bad, R.st_ok, R.st_ex, R.st_bad, RS.seq_nx, RS.seq_rt, RS.seq_ex, RS.seq_bk, RS.seq_ct, RS.seq_bad, optR_some, optR_none, Tg.set, setAll, asB, Lt.truthy, isNon, biLE, getL_tmp, getM_tmp, Option.isSome_some, reduceIte, if_true, if_false, Bool.false_eq_true, Option.map_some, w0, w1, w2, w3, w4, w5, w6, w7, w8, w9, w10, w11, w12, w13, w14, w15, w16, w17, w18, w19, w20, w21, w22, w23, w24, x0, x1, x2, x3, x4, x5, x6, x7, x8, x9, x10, x11, x12, x13, x14, x15, x16, x17, x18, x19, x20, x21, x22, x23, x24, z0, z1, z2, z3, z4, z5, z6, z7, z8, z9, z10, z11, z12, z13, z14, z15, z16, z17, z18, z19, z20, z21, z22, z23, z24, y0, y1, y2, y3, y4, y5, y6, y7, y8, y9, y10, y11, y12, y13, y14, y15, y16, y17, y18, y19, y20, y21, y22, y23, y24, b12, hdS, c_eqI, h1, h2, s_left ht, s_at ht, s_cells ht, s_len hc hct, bi1E]
  · have h2 : decide (l = 0) = false := decide_eq_false h0
    simp -implicitDefEqProofs only [Stms.ev, Stm.ev, Ex.ev, Ex.evT, Exs.ev, Exs.evAnd, Exs.evOr, Exs.evTAnd, Exs.evTOr, Ox.ev, Ox.evT, Lx.ev, It.ev, v_c, v_bin, v_cmp, v_bl, v_isN, v_ntN, v_not, v_tru, v_asB, v_and, v_or, v_if, v_tup, v_nil, v_cons, v_sub, v_onone, v_osome, v_slice, v_call, v_glb, v_ofE, v_disp, v_cat, v_bi1, v_biL, v_isi, v_inS, v_sidx, v_join, v_subL, v_new, v_dct, v_lenSet, v_yes, v_itL, v_itA, v_itR1, v_itR2, v_lc, q_v_asg, q_v_par, q_v_setD, q_v_expr, q_v_app, q_v_if, q_v_for, q_v_ret, o_add, o_sub, c_lt, c_le, c_gt, c_ge, a_add, R.bind_ok, R.bind_ex, R.bind_bad, R.st_ok, R.st_ex, R.st_bad, RS.seq_nx, RS.seq_rt, RS.seq_ex, RS.seq_bk, RS.seq_ct, RS.seq_bad, optR_some, optR_none, Tg.set, setAll, asB, Lt.truthy, isNon, biLE, getL_tmp, getM_tmp, Option.isSome_some, reduceIte, if_true, if_false, Bool.false_eq_true, Option.map_some, w0, w1, w2, w3, w4, w5, w6, w7, w8, w9, w10, w11, w12, w13, w14, w15, w16, w17, w18, w19, w20, w21, w22, w23, w24, x0, x1, x2, x3, x4, x5, x6, x7, x8, x9, x10, x11, x12, x13, x14, x15, x16, x17, x18, x19, x20, x21, x22, x23, x24, z0, z1, z2, z3, z4, z5, z6, z7, z8, z9, z10, z11, z12, z13, z14, z15, z16, z17, z18, z19, z20, z21, z22, z23, z24, y0, y1, y2, y3, y4, y5, y6, y7, y8, y9, y10, y11, y12, y13, y14, y15, y16, y17, y18, y19, y20, y21, y22, y23, y24, b12, hdS, c_eqI, h2, s_left ht, s_at ht, s_cells ht, s_len hc hct, bi1E]
theorem take_dig {k t c : Nat} {H : Hq} {m a l s z : Int} (ht : t < H.length) (hl : 0 < l) (hm : 0 < m) (hm2 : m < 1073741824) :
    (tlS b12).ev (Pn k) [some (.ref t), some (.int m), none, none] (H.set t (TD c a l s z)) = .rt (.int (l % m)) (H.set t (TD c a (l / m) s z)) := by
  have h1 : decide (l > 0) = true := decide_eq_true hl
  simp -implicitDefEqProofs only [Stms.ev, Stm.ev, Ex.ev, Ex.evT, Exs.ev, Exs.evAnd, Exs.evOr, Exs.evTAnd, Exs.evTOr, Ox.ev, Ox.evT, Lx.ev, It.ev, v_c, v_bin, v_cmp, v_bl, v_isN, v_ntN, v_not, v_tru, v_asB, v_and, v_or, v_if, v_tup, v_nil, v_cons, v_sub, v_onone, v_osome, v_slice, v_call, v_glb, v_ofE, v_disp, v_cat, v_bi1, v_biL, v_isi, v_inS, v_sidx, v_join, v_subL, v_new, v_dct, v_lenSet, v_yes, v_itL, v_itA, v_itR1, v_itR2, v_lc, q_v_asg, q_v_par, q_v_setD, q_v_expr, q_v_app, q_v_if, q_v_for, q_v_ret, o_add, o_sub, c_lt, c_le, c_gt, c_ge, a_add, R.bind_ok, R.bind_ex, R.bind_bad, R.st_ok, R.st_ex, R.st_bad, RS.seq_nx, RS.seq_rt, RS.seq_ex, RS.seq_bk, RS.seq_ct, RS.seq_bad, optR_some, optR_none, Tg.set, setAll, asB, Lt.truthy, isNon, biLE, getL_tmp, getM_tmp, Option.isSome_some, reduceIte, if_true, if_false, Bool.false_eq_true, Option.map_some, w0, w1, w2, w3, w4, w5, w6, w7, w8, w9, w10, w11, w12, w13, w14, w15, w16, w17, w18, w19, w20, w21, w22, w23, w24, x0, x1, x2, x3, x4, x5, x6, x7, x8, x9, x10, x11, x12, x13, x14, x15, x16, x17, x18, x19, x20, x21, x22, x23, x24, z0, z1, z2, z3, z4, z5, z6, z7, z8, z9, z10, z11, z12, z13, z14, z15, z16, z17, z18, z19, z20, z21, z22, z23, z24, y0, y1, y2, y3, y4, y5, y6, y7, y8, y9, y10, y11, y12, y13, y14, y15, y16, y17, y18, y19, y20, y21, y22, y23, y24, b12, tlS, h1, s_left ht, bi1E, o_mod hm, o_fdiv hm hm2, g_T ht, sz5, p_left, List.set_set]
theorem take_mix {k t c : Nat} {H : Hq} {m a l s z : Int} (ht : t < H.length) (hl : l ≤ 0) (hm : 0 < m) :
    ∃ d, (tlS b12).ev (Pn k) [some (.ref t), some (.int m), none, none] (H.set t (TD c a l s z)) = .rt (.int (d % m)) (H.set t (TD c a l s (z + 1))) := by
  have h1 : decide (l > 0) = false := decide_eq_false (by omega)
  have q1 : (0 : Int) < 2147483647 := by decide
  have q2 : (0 : Int) < 2147483399 := by decide
  have m1 : ∀ i : Int, mulOk i 48271 = true := fun i => mulOk_r (by decide)
  have m2 : ∀ i : Int, mulOk i 69621 = true := fun i => mulOk_r (by decide)
  have m3 : ∀ i : Int, mulOk i 40692 = true := fun i => mulOk_r (by decide)
  have m4 : ∀ i j : Int, mulOk i (j % 2147483647) = true := fun i j => mulOk_r ⟨by have := Int.emod_nonneg j (b := 2147483647) (by decide); omega, by have := Int.emod_lt_of_pos j (b := 2147483647) (by decide); omega⟩
  refine ⟨((s * 48271 + (z + 1) * 69621) % 2147483647 * ((s * 48271 + (z + 1) * 69621) % 2147483647) + (z + 1) * 40692 + 12345) % 2147483399, ?_⟩
  simp -implicitDefEqProofs only [Stms.ev, Stm.ev, Ex.ev, Ex.evT, Exs.ev, Exs.evAnd, Exs.evOr, Exs.evTAnd, Exs.evTOr, Ox.ev, Ox.evT, Lx.ev, It.ev, v_c, v_bin, v_cmp, v_bl, v_isN, v_ntN, v_not, v_tru, v_asB, v_and, v_or, v_if, v_tup, v_nil, v_cons, v_sub, v_onone, v_osome, v_slice, v_call, v_glb, v_ofE, v_disp, v_cat, v_bi1, v_biL, v_isi, v_inS, v_sidx, v_join, v_subL, v_new, v_dct, v_lenSet, v_yes, v_itL, v_itA, v_itR1, v_itR2, v_lc, q_v_asg, q_v_par, q_v_setD, q_v_expr, q_v_app, q_v_if, q_v_for, q_v_ret, o_add, o_sub, c_lt, c_le, c_gt, c_ge, a_add, R.bind_ok, R.bind_ex, R.bind_bad, R.st_ok, R.st_ex, R.st_bad, RS.seq_nx, RS.seq_rt, RS.seq_ex, RS.seq_bk, RS.seq_ct, RS.seq_bad, optR_some, optR_none, Tg.set, setAll, asB, Lt.truthy, isNon, biLE, getL_tmp, getM_tmp, Option.isSome_some, reduceIte, if_true, if_false, Bool.false_eq_true, Option.map_some, w0, w1, w2, w3, w4, w5, w6, w7, w8, w9, w10, w11, w12, w13, w14, w15, w16, w17, w18, w19, w20, w21, w22, w23, w24, x0, x1, x2, x3, x4, x5, x6, x7, x8, x9, x10, x11, x12, x13, x14, x15, x16, x17, x18, x19, x20, x21, x22, x23, x24, z0, z1, z2, z3, z4, z5, z6, z7, z8, z9, z10, z11, z12, z13, z14, z15, z16, z17, z18, z19, z20, z21, z22, z23, z24, y0, y1, y2, y3, y4, y5, y6, y7, y8, y9, y10, y11, y12, y13, y14, y15, y16, y17, y18, y19, y20, y21, y22, y23, y24, b12, tlS, h1, s_left ht, s_salt ht, s_seed ht, bi1E, o_mod hm, o_mod q1, o_mod q2, o_mul (m1 _), o_mul (m2 _), o_mul (m3 _), o_mul (m4 _ _), g_T ht, sz5, p_salt, List.set_set]
end K01
end
section
set_option Elab.async false
set_option linter.all false
set_option maxRecDepth 100000
set_option maxHeartbeats 1000000
/-! k01: the law's tape and its draws. -/
namespace K01
open PySem Lt
/-- a tape stands at t -/
def IsT (t : Nat) (H : Hq) : Prop := ∃ (c : Nat) (cs : List Int) (i : Nat) (l s z : Int), c ≠ t ∧ H[c]? = some (.lst (cs.map E.int)) ∧ (∀ x ∈ cs, 0 ≤ x) ∧ 0 ≤ l ∧ H[t]? = some (TD c (i : Int) l s z)
theorem set_self {H : Hq} {t : Nat} {D : Ob} (h : H[t]? = some D) : H.set t D = H := by
  obtain ⟨h1, h2⟩ := List.getElem?_eq_some_iff.mp h
  rw [← h2]
  exact List.set_getElem_self h1
theorem IsT_self {H : Hq} {t : Nat} (h : IsT t H) : ∃ v, H.set t v = H := by
  obtain ⟨c, cs, i, l, s, z, _, _, _, _, h⟩ := h
  exact ⟨_, set_self h⟩
theorem IsT_new {H : Hq} {t c i : Nat} {cs : List Int} {l s z : Int} (ht : t < H.length) (hct : c ≠ t) (hc : H[c]? = some (.lst (cs.map E.int))) (hp : ∀ x ∈ cs, 0 ≤ x) (hl : 0 ≤ l) : IsT t (H.set t (TD c (i : Int) l s z)) :=
  ⟨c, cs, i, l, s, z, hct, g_C hc hct _, hp, hl, g_T ht _⟩
theorem law_take_ok {k t m : Nat} {H : Hq} (h : IsT t H) (hm : 0 < m) (hm2 : m < 1073741824) : ∃ d v, cl (k + 1) 12 [.ref t, .int (m : Int)] H = .ok (.int (d : Nat)) (H.set t v) ∧ IsT t (H.set t v) ∧ d < m := by
  obtain ⟨c, cs, i, l, s, z, hct, hc, hp, hl, h⟩ := h
  have ht : t < H.length := (List.getElem?_eq_some_iff.mp h).1
  have hH := set_self h
  have hm' : (0 : Int) < (m : Int) := by omega
  have hm2' : (m : Int) < 1073741824 := by omega
  rw [cl_succ (fn := f12) rfl rfl]
  have two : ∀ (j : Nat) (x : Int), 0 ≤ x → ((hdS b12).ev (Pn k) [some (.ref t), some (.int (m : Int)), none, none] H = .nx [some (.ref t), some (.int (m : Int)), none, none] (H.set t (TD c (j : Int) x s z))) →
      ∃ d v, endR false H (b12.ev (Pn k) [some (.ref t), some (.int (m : Int)), none, none] H) = .ok (.int (d : Nat)) (H.set t v) ∧ IsT t (H.set t v) ∧ d < m := by
    intro j x hx h1
    have e0 : b12.ev (Pn k) [some (.ref t), some (.int (m : Int)), none, none] H = ((hdS b12).ev (Pn k) [some (.ref t), some (.int (m : Int)), none, none] H).seq ((tlS b12).ev (Pn k)) := rfl
    rw [e0, h1, RS.seq_nx]
    by_cases h0 : 0 < x
    · rw [take_dig ht h0 hm' hm2']
      have hd1 := Int.emod_nonneg x (b := (m : Int)) (by omega)
      have hd2 := Int.emod_lt_of_pos x hm'
      refine ⟨(x % (m : Int)).toNat, TD c (j : Int) (x / (m : Int)) s z, ?_, IsT_new ht hct hc hp (Int.ediv_nonneg hx (by omega)), by omega⟩
      rw [Int.toNat_of_nonneg hd1]
      rfl
    · obtain ⟨d, e1⟩ := take_mix (k := k) (c := c) (a := (j : Int)) (s := s) (z := z) ht (show x ≤ 0 by omega) hm'
      rw [e1]
      have hd1 := Int.emod_nonneg d (b := (m : Int)) (by omega)
      have hd2 := Int.emod_lt_of_pos d hm'
      refine ⟨(d % (m : Int)).toNat, TD c (j : Int) x s (z + 1), ?_, IsT_new ht hct hc hp hx, by omega⟩
      rw [Int.toNat_of_nonneg hd1]
      rfl
  show ∃ d v, endR false H (b12.ev (Pn k) [some (.ref t), some (.int (m : Int)), none, none] H) = .ok (.int (d : Nat)) (H.set t v) ∧ IsT t (H.set t v) ∧ d < m
  by_cases hu : l = 0 ∧ i < cs.length
  · obtain ⟨rfl, hi⟩ := hu
    obtain ⟨x, hx⟩ : ∃ x, cs[i]? = some x := ⟨_, List.getElem?_eq_getElem hi⟩
    have h1 := take_up (k := k) (m := (m : Int)) (s := s) (z := z) ht hc hct hx
    rw [hH] at h1
    refine two (i + 1) x (hp x (List.mem_of_getElem? hx)) ?_
    rw [h1]
    rfl
  · have h1 := take_no (k := k) (m := (m : Int)) (a := (i : Int)) (l := l) (s := s) (z := z) ht hc hct (by omega)
    rw [hH] at h1
    refine two i l hl ?_
    rw [h1, hH]
/-- a comprehension that draws -/
theorem lc_tape {α : Type} {t : Nat} {g : α → E} {Q : α → Prop} {all : List E} {e : Sx E} {n : Nm} {ρ : Ro} (he : ∀ (y : E) (H : Hq), IsT t H → ∃ x v, e (ρ.set n.i (some y)) H = .ok (g x) (H.set t v) ∧ IsT t (H.set t v) ∧ Q x) :
    ∀ (l acc : List E) (H : Hq), IsT t H → acc.length + l.length ≤ 16777216 → ∃ (xs : List α) (v : Ob), lcS none all (.name n) sYes e ρ l acc H = .ok (acc ++ xs.map g) (H.set t v) ∧ IsT t (H.set t v) ∧ xs.length = l.length ∧ ∀ x ∈ xs, Q x
  | [], acc, H, hT, _ => by
    obtain ⟨v, hv⟩ := IsT_self hT
    refine ⟨[], v, ?_, by rw [hv]; exact hT, rfl, fun x h => by cases h⟩
    rw [lc_end rfl, hv]
    simp
  | y :: l, acc, H, hT, hl => by
    rw [List.length_cons] at hl
    obtain ⟨x, v, h1, h2, h3⟩ := he y H hT
    obtain ⟨xs, w, g1, g2, g3, g4⟩ := lc_tape he l (acc ++ [g x]) (H.set t v) h2 (by simp; omega)
    refine ⟨x :: xs, w, ?_, by rw [List.set_set] at g2; exact g2, by simp [g3], ?_⟩
    · rw [lc_turn (ρ1 := ρ.set n.i (some y)) rfl rfl rfl h1 (by omega), g1, List.set_set]
      simp
    · intro a ha
      rcases List.mem_cons.mp ha with rfl | ha
      · exact h3
      · exact g4 a ha
end K01
end
section
set_option Elab.async false
set_option linter.all false
set_option maxRecDepth 100000
set_option maxHeartbeats 1000000
/-! k01: the law's things. -/
namespace K01
open PySem Lt
/-- a tape moved on -/
def Tp (t : Nat) (H H2 : Hq) : Prop := IsT t H2 ∧ ∃ v, H2 = H.set t v
theorem Tp.trans {t : Nat} {H H2 H3 : Hq} (a : Tp t H H2) (b : Tp t H2 H3) : Tp t H H3 := by
  obtain ⟨_, v, rfl⟩ := a
  obtain ⟨h, w, e⟩ := b
  exact ⟨h, w, by rw [e, List.set_set]⟩
theorem tk {k t m : Nat} {H : Hq} (h : IsT t H) (hm : 0 < m) (hm2 : m < 1073741824) : ∃ (d : Nat) (H2 : Hq), (Pn (k + 1)).cl 12 [.ref t, .int (m : Int)] H = .ok (.int (d : Int)) H2 ∧ Tp t H H2 ∧ d < m := by
  obtain ⟨d, v, h1, h2, h3⟩ := law_take_ok (k := k) h hm hm2
  exact ⟨d, H.set t v, h1, ⟨h2, v, rfl⟩, h3⟩
/-- the numbers that are drawn -/
def OkN (n : Nat) : Prop := n ≤ 4 ∨ (127 ≤ n ∧ n ≤ 129) ∨ (16383 ≤ n ∧ n ≤ 16385) ∨ ∃ j, j < 60000 ∧ n = 70000 * j
mutual
/-- a thing that is drawn -/
def Th.sm : Th → Prop
  | .non => True
  | .num n => OkN n
  | .str l => l.length ≤ 4 ∧ ∀ i ∈ l, i < 91
  | .tup xs => xs.length ≤ 3 ∧ Th.sms xs
def Th.sms : List Th → Prop
  | [] => True
  | x :: r => x.sm ∧ Th.sms r
end
theorem sms_of : ∀ {xs : List Th}, (∀ x ∈ xs, x.sm) → Th.sms xs
  | [], _ => by unfold Th.sms; trivial
  | x :: r, h => by
    unfold Th.sms
    exact ⟨h x List.mem_cons_self, sms_of fun y hy => h y (List.mem_cons_of_mem _ hy)⟩
theorem deps_of {d : Nat} : ∀ {xs : List Th}, (∀ x ∈ xs, x.dep ≤ d) → Th.deps xs ≤ d
  | [], _ => by unfold Th.deps; omega
  | x :: r, h => by
    unfold Th.deps
    have h1 := h x List.mem_cons_self
    have h2 := deps_of (xs := r) fun y hy => h y (List.mem_cons_of_mem _ hy)
    omega
theorem es_map : ∀ xs : List Th, xs.map Th.e = Th.es xs
  | [] => by unfold Th.es; rfl
  | x :: r => by
    unfold Th.es
    rw [List.map_cons, es_map r]
theorem al_at {H : Hq} {i : Nat} (h : i < 91) : subE H (.str AL) (.int (i : Int)) = some (.str (sg i)) := by
  show (if AL.length ≤ sizeLine then (L2.atI AL.cps.toList (i : Int)).map fun c => E.str ⟨#[c]⟩ else none) = _
  rw [if_pos (by rw [AL_len]; exact le_line (by omega))]
  have hx : AC[i]? = some (AC.getD i 0) := by
    rw [List.getD_eq_getElem?_getD, List.getElem?_eq_getElem (by rw [AC_len]; exact h)]
    rfl
  have h2 : L2.atI AC (i : Int) = some (AC.getD i 0) := atI_nat hx
  show (L2.atI AC (i : Int)).map _ = _
  rw [h2]
  rfl
theorem al_len {H : Hq} : lenE H (.str AL) = some 91 := by
  show (if AL.length ≤ sizeLine then some AL.length else none) = _
  rw [if_pos (by rw [AL_len]; exact le_line (by omega)), AL_len]
theorem fiveNums (d0 d1 d2 d3 d4 : Nat) (h0 : d0 < 5) (h1 : d1 < 3) (h2 : d2 < 3) (h3 : d3 < 60000) (h4 : d4 < 4) : ∃ n : Nat, OkN n ∧ L2.atI [E.int (d0 : Int), E.int (127 + (d1 : Int)), E.int (16383 + (d2 : Int)), E.int (70000 * (d3 : Int))] (d4 : Int) = some (.int (n : Int)) := by
  match d4, h4 with
  | 0, _ => exact ⟨d0, .inl (by omega), atI_nat (j := 0) rfl⟩
  | 1, _ => exact ⟨127 + d1, .inr (.inl (by omega)), by rw [Int.natCast_add]; exact atI_nat (j := 1) rfl⟩
  | 2, _ => exact ⟨16383 + d2, .inr (.inr (.inl (by omega))), by rw [Int.natCast_add]; exact atI_nat (j := 2) rfl⟩
  | 3, _ => exact ⟨70000 * d3, .inr (.inr (.inr ⟨d3, h3, rfl⟩)), by rw [Int.natCast_mul]; exact atI_nat (j := 3) rfl⟩
  | n + 4, h => omega
theorem sgn_ok {k t : Nat} {H : Hq} {dp w y : E} (h : IsT t H) : ∃ (i : Nat) (v : Ob), b13_1.ev (Pn (k + 1)) (List.set [some (.ref t), some dp, some w, none, none] 4 (some y)) H = .ok (E.str (sg i)) (H.set t v) ∧ IsT t (H.set t v) ∧ i < 91 := by
  obtain ⟨d, H2, h1, ⟨h2, v, rfl⟩, h3⟩ := tk (k := k) (m := 91) h (by omega) (by omega)
  refine ⟨d, v, ?_, h2, h3⟩
  have ha := al_at (H := H.set t v) h3
  have hl := al_len (H := H)
  simp -implicitDefEqProofs only [Stms.ev, Stm.ev, Ex.ev, Ex.evT, Exs.ev, Exs.evAnd, Exs.evOr, Exs.evTAnd, Exs.evTOr, Ox.ev, Ox.evT, Lx.ev, It.ev, v_c, v_bin, v_cmp, v_bl, v_isN, v_ntN, v_not, v_tru, v_asB, v_and, v_or, v_if, v_tup, v_nil, v_cons, v_sub, v_onone, v_osome, v_slice, v_call, v_glb, v_ofE, v_disp, v_cat, v_bi1, v_biL, v_isi, v_inS, v_sidx, v_join, v_subL, v_new, v_dct, v_lenSet, v_yes, v_itL, v_itA, v_itR1, v_itR2, v_lc, q_v_asg, q_v_par, q_v_setD, q_v_expr, q_v_app, q_v_if, q_v_for, q_v_ret, o_add, o_sub, c_lt, c_le, c_gt, c_ge, a_add, R.bind_ok, R.bind_ex, R.bind_bad, R.st_ok, R.st_ex, R.st_bad, RS.seq_nx, RS.seq_rt, RS.seq_ex, RS.seq_bk, RS.seq_ct, RS.seq_bad, optR_some, optR_none, Tg.set, setAll, asB, Lt.truthy, isNon, biLE, getL_tmp, getM_tmp, Option.isSome_some, reduceIte, if_true, if_false, Bool.false_eq_true, Option.map_some, w0, w1, w2, w3, w4, w5, w6, w7, w8, w9, w10, w11, w12, w13, w14, w15, w16, w17, w18, w19, w20, w21, w22, w23, w24, x0, x1, x2, x3, x4, x5, x6, x7, x8, x9, x10, x11, x12, x13, x14, x15, x16, x17, x18, x19, x20, x21, x22, x23, x24, z0, z1, z2, z3, z4, z5, z6, z7, z8, z9, z10, z11, z12, z13, z14, z15, z16, z17, z18, z19, z20, z21, z22, z23, z24, y0, y1, y2, y3, y4, y5, y6, y7, y8, y9, y10, y11, y12, y13, y14, y15, y16, y17, y18, y19, y20, y21, y22, y23, y24, b13_1, glb0, hl, bi1E, h1, ha]
/-- the rest of the draw after its first number -/
theorem thing_leaf {k t w : Nat} {H : Hq} {dp : E} (h : IsT t H) (hw : w < 3) : ∃ (th : Th) (ρ2 : Ro) (H2 : Hq), (tlS b13).ev (Pn (k + 1)) [some (.ref t), some dp, some (.int (w : Int)), none, none] H = .rt th.e H2 ∧ Tp t H H2 ∧ th.dep ≤ 1 ∧ th.sm := by
  match w, hw with
  | 0, _ =>
    have c0 : cmpop .eq (.int ((0 : Nat) : Int)) (.int 0) = some true := by rw [c_eqI]; rfl
    obtain ⟨v, hv⟩ := IsT_self h
    refine ⟨.non, [], H, ?_, ⟨h, v, hv.symm⟩, by unfold Th.dep; omega, by unfold Th.sm; trivial⟩
    simp -implicitDefEqProofs only [Stms.ev, Stm.ev, Ex.ev, Ex.evT, Exs.ev, Exs.evAnd, Exs.evOr, Exs.evTAnd, Exs.evTOr, Ox.ev, Ox.evT, Lx.ev, It.ev, v_c, v_bin, v_cmp, v_bl, v_isN, v_ntN, v_not, v_tru, v_asB, v_and, v_or, v_if, v_tup, v_nil, v_cons, v_sub, v_onone, v_osome, v_slice, v_call, v_glb, v_ofE, v_disp, v_cat, v_bi1, v_biL, v_isi, v_inS, v_sidx, v_join, v_subL, v_new, v_dct, v_lenSet, v_yes, v_itL, v_itA, v_itR1, v_itR2, v_lc, q_v_asg, q_v_par, q_v_setD, q_v_expr, q_v_app, q_v_if, q_v_for, q_v_ret, o_add, o_sub, c_lt, c_le, c_gt, c_ge, a_add, R.bind_ok, R.bind_ex, R.bind_bad, R.st_ok, R.st_ex, R.st_bad, RS.seq_nx, RS.seq_rt, RS.seq_ex, RS.seq_bk, RS.seq_ct, RS.seq_bad, optR_some, optR_none, Tg.set, setAll, asB, Lt.truthy, isNon, biLE, getL_tmp, getM_tmp, Option.isSome_some, reduceIte, if_true, if_false, Bool.false_eq_true, Option.map_some, w0, w1, w2, w3, w4, w5, w6, w7, w8, w9, w10, w11, w12, w13, w14, w15, w16, w17, w18, w19, w20, w21, w22, w23, w24, x0, x1, x2, x3, x4, x5, x6, x7, x8, x9, x10, x11, x12, x13, x14, x15, x16, x17, x18, x19, x20, x21, x22, x23, x24, z0, z1, z2, z3, z4, z5, z6, z7, z8, z9, z10, z11, z12, z13, z14, z15, z16, z17, z18, z19, z20, z21, z22, z23, z24, y0, y1, y2, y3, y4, y5, y6, y7, y8, y9, y10, y11, y12, y13, y14, y15, y16, y17, y18, y19, y20, y21, y22, y23, y24, b13, tlS, c0, Th.e]
  | 1, _ =>
    have c0 : cmpop .eq (.int ((1 : Nat) : Int)) (.int 0) = some false := by rw [c_eqI]; rfl
    have c1 : cmpop .eq (.int ((1 : Nat) : Int)) (.int 1) = some true := by rw [c_eqI]; rfl
    obtain ⟨d0, H0, t0, p0, l0⟩ := tk (k := k) (m := 5) h (by omega) (by omega)
    obtain ⟨d1, H1, t1, p1, l1⟩ := tk (k := k) (m := 3) p0.1 (by omega) (by omega)
    obtain ⟨d2, H2, t2, p2, l2⟩ := tk (k := k) (m := 3) p1.1 (by omega) (by omega)
    obtain ⟨d3, H3, t3, p3, l3⟩ := tk (k := k) (m := 60000) p2.1 (by omega) (by omega)
    obtain ⟨d4, H4, t4, p4, l4⟩ := tk (k := k) (m := 4) p3.1 (by omega) (by omega)
    have t0 : (Pn (k + 1)).cl 12 [.ref t, .int 5] H = _ := t0
    have t1 : (Pn (k + 1)).cl 12 [.ref t, .int 3] H0 = _ := t1
    have t2 : (Pn (k + 1)).cl 12 [.ref t, .int 3] H1 = _ := t2
    have t3 : (Pn (k + 1)).cl 12 [.ref t, .int 60000] H2 = _ := t3
    have t4 : (Pn (k + 1)).cl 12 [.ref t, .int 4] H3 = _ := t4
    obtain ⟨n, hn, ha⟩ := fiveNums d0 d1 d2 d3 d4 l0 l1 l2 l3 l4
    have m1 : mulOk 70000 (d3 : Int) = true := mulOk_l (by decide)
    have s4 : ∀ a b c d : E, [a, b, c, d].length ≤ sizeLine := fun a b c d => le_line (by simp)
    refine ⟨.num n, [], H4, ?_, p0.trans (p1.trans (p2.trans (p3.trans p4))), by unfold Th.dep; omega, by unfold Th.sm; exact hn⟩
    simp -implicitDefEqProofs only [Stms.ev, Stm.ev, Ex.ev, Ex.evT, Exs.ev, Exs.evAnd, Exs.evOr, Exs.evTAnd, Exs.evTOr, Ox.ev, Ox.evT, Lx.ev, It.ev, v_c, v_bin, v_cmp, v_bl, v_isN, v_ntN, v_not, v_tru, v_asB, v_and, v_or, v_if, v_tup, v_nil, v_cons, v_sub, v_onone, v_osome, v_slice, v_call, v_glb, v_ofE, v_disp, v_cat, v_bi1, v_biL, v_isi, v_inS, v_sidx, v_join, v_subL, v_new, v_dct, v_lenSet, v_yes, v_itL, v_itA, v_itR1, v_itR2, v_lc, q_v_asg, q_v_par, q_v_setD, q_v_expr, q_v_app, q_v_if, q_v_for, q_v_ret, o_add, o_sub, c_lt, c_le, c_gt, c_ge, a_add, R.bind_ok, R.bind_ex, R.bind_bad, R.st_ok, R.st_ex, R.st_bad, RS.seq_nx, RS.seq_rt, RS.seq_ex, RS.seq_bk, RS.seq_ct, RS.seq_bad, optR_some, optR_none, Tg.set, setAll, asB, Lt.truthy, isNon, biLE, getL_tmp, getM_tmp, Option.isSome_some, reduceIte, if_true, if_false, Bool.false_eq_true, Option.map_some, w0, w1, w2, w3, w4, w5, w6, w7, w8, w9, w10, w11, w12, w13, w14, w15, w16, w17, w18, w19, w20, w21, w22, w23, w24, x0, x1, x2, x3, x4, x5, x6, x7, x8, x9, x10, x11, x12, x13, x14, x15, x16, x17, x18, x19, x20, x21, x22, x23, x24, z0, z1, z2, z3, z4, z5, z6, z7, z8, z9, z10, z11, z12, z13, z14, z15, z16, z17, z18, z19, z20, z21, z22, z23, z24, y0, y1, y2, y3, y4, y5, y6, y7, y8, y9, y10, y11, y12, y13, y14, y15, y16, y17, y18, y19, y20, y21, y22, y23, y24, b13, tlS, c0, c1, t0, t1, t2, t3, t4, o_mul m1, s4, intE, ha, Th.e]
  | 2, _ =>
    have c0 : cmpop .eq (.int ((2 : Nat) : Int)) (.int 0) = some false := by rw [c_eqI]; rfl
    have c1 : cmpop .eq (.int ((2 : Nat) : Int)) (.int 1) = some false := by rw [c_eqI]; rfl
    have c2 : cmpop .eq (.int ((2 : Nat) : Int)) (.int 2) = some true := by rw [c_eqI]; rfl
    obtain ⟨d0, H0, t0, p0, l0⟩ := tk (k := k) (m := 5) h (by omega) (by omega)
    have t0 : (Pn (k + 1)).cl 12 [.ref t, .int 5] H = _ := t0
    obtain ⟨l, v, e1, e2, e3, e4⟩ := lc_tape (g := fun i => E.str (sg i)) (Q := fun i => i < 91) (all := rng 0 d0) (e := b13_1.ev (Pn (k + 1))) (n := ⟨4, "k", ⟨125, 69, 125, 70⟩⟩) (ρ := [some (.ref t), some dp, some (.int ((2 : Nat) : Int)), none, none]) (t := t) (fun y H hT => sgn_ok hT) (rng 0 d0) [] H0 p0.1 (by rw [rng_len]; simp; omega)
    rw [rng_len] at e3
    rw [List.nil_append] at e1
    have hj := joinE_sg (l := l) (by omega)
    rw [show Str.empty = ("" : Str) by decide +kernel] at hj
    have hin : in62 (d0 : Int) = true := in62_nat (by omega)
    refine ⟨.str l, [], H0.set t v, ?_, p0.trans ⟨e2, v, rfl⟩, by unfold Th.dep; omega, by unfold Th.sm; exact ⟨by omega, e4⟩⟩
    simp -implicitDefEqProofs only [Stms.ev, Stm.ev, Ex.ev, Ex.evT, Exs.ev, Exs.evAnd, Exs.evOr, Exs.evTAnd, Exs.evTOr, Ox.ev, Ox.evT, Lx.ev, It.ev, v_c, v_bin, v_cmp, v_bl, v_isN, v_ntN, v_not, v_tru, v_asB, v_and, v_or, v_if, v_tup, v_nil, v_cons, v_sub, v_onone, v_osome, v_slice, v_call, v_glb, v_ofE, v_disp, v_cat, v_bi1, v_biL, v_isi, v_inS, v_sidx, v_join, v_subL, v_new, v_dct, v_lenSet, v_yes, v_itL, v_itA, v_itR1, v_itR2, v_lc, q_v_asg, q_v_par, q_v_setD, q_v_expr, q_v_app, q_v_if, q_v_for, q_v_ret, o_add, o_sub, c_lt, c_le, c_gt, c_ge, a_add, R.bind_ok, R.bind_ex, R.bind_bad, R.st_ok, R.st_ex, R.st_bad, RS.seq_nx, RS.seq_rt, RS.seq_ex, RS.seq_bk, RS.seq_ct, RS.seq_bad, optR_some, optR_none, Tg.set, setAll, asB, Lt.truthy, isNon, biLE, getL_tmp, getM_tmp, Option.isSome_some, reduceIte, if_true, if_false, Bool.false_eq_true, Option.map_some, w0, w1, w2, w3, w4, w5, w6, w7, w8, w9, w10, w11, w12, w13, w14, w15, w16, w17, w18, w19, w20, w21, w22, w23, w24, x0, x1, x2, x3, x4, x5, x6, x7, x8, x9, x10, x11, x12, x13, x14, x15, x16, x17, x18, x19, x20, x21, x22, x23, x24, z0, z1, z2, z3, z4, z5, z6, z7, z8, z9, z10, z11, z12, z13, z14, z15, z16, z17, z18, z19, z20, z21, z22, z23, z24, y0, y1, y2, y3, y4, y5, y6, y7, y8, y9, y10, y11, y12, y13, y14, y15, y16, y17, y18, y19, y20, y21, y22, y23, y24, b13, tlS, c0, c1, c2, t0, intE, hin, Int.toNat_natCast, wipeR, List.map_cons, List.map_nil, e1, hj, Th.e]
theorem thing_tup {k t w : Nat} {H : Hq} {dp : E} {D : Nat} (h : IsT t H) (hw : 3 ≤ w)
    (hr : ∀ (y : E) (H : Hq), IsT t H → ∃ (x : Th) (v : Ob), b13_0.ev (Pn (k + 1)) (List.set [some (.ref t), some dp, some (.int (w : Int)), none, none] 4 (some y)) H = .ok x.e (H.set t v) ∧ IsT t (H.set t v) ∧ (x.dep ≤ D ∧ x.sm)) :
    ∃ (th : Th) (H2 : Hq), (tlS b13).ev (Pn (k + 1)) [some (.ref t), some dp, some (.int (w : Int)), none, none] H = .rt th.e H2 ∧ Tp t H H2 ∧ th.dep ≤ D + 1 ∧ th.sm := by
  have c0 : cmpop .eq (.int (w : Int)) (.int 0) = some false := by rw [c_eqI, decide_eq_false (by omega)]
  have c1 : cmpop .eq (.int (w : Int)) (.int 1) = some false := by rw [c_eqI, decide_eq_false (by omega)]
  have c2 : cmpop .eq (.int (w : Int)) (.int 2) = some false := by rw [c_eqI, decide_eq_false (by omega)]
  obtain ⟨d0, H0, t0, p0, l0⟩ := tk (k := k) (m := 4) h (by omega) (by omega)
  have t0 : (Pn (k + 1)).cl 12 [.ref t, .int 4] H = _ := t0
  obtain ⟨l, v, e1, e2, e3, e4⟩ := lc_tape (g := Th.e) (Q := fun x => x.dep ≤ D ∧ x.sm) (all := rng 0 d0) (e := b13_0.ev (Pn (k + 1))) (n := ⟨4, "k", ⟨126, 49, 126, 50⟩⟩) (ρ := [some (.ref t), some dp, some (.int (w : Int)), none, none]) (t := t) hr (rng 0 d0) [] H0 p0.1 (by rw [rng_len]; simp; omega)
  rw [rng_len] at e3
  rw [List.nil_append, es_map] at e1
  have hin : in62 (d0 : Int) = true := in62_nat (by omega)
  have hd := deps_of fun x hx => (e4 x hx).1
  have hs := sms_of fun x hx => (e4 x hx).2
  refine ⟨.tup l, H0.set t v, ?_, p0.trans ⟨e2, v, rfl⟩, by unfold Th.dep; omega, by unfold Th.sm; exact ⟨by omega, hs⟩⟩
  simp -implicitDefEqProofs only [Stms.ev, Stm.ev, Ex.ev, Ex.evT, Exs.ev, Exs.evAnd, Exs.evOr, Exs.evTAnd, Exs.evTOr, Ox.ev, Ox.evT, Lx.ev, It.ev, v_c, v_bin, v_cmp, v_bl, v_isN, v_ntN, v_not, v_tru, v_asB, v_and, v_or, v_if, v_tup, v_nil, v_cons, v_sub, v_onone, v_osome, v_slice, v_call, v_glb, v_ofE, v_disp, v_cat, v_bi1, v_biL, v_isi, v_inS, v_sidx, v_join, v_subL, v_new, v_dct, v_lenSet, v_yes, v_itL, v_itA, v_itR1, v_itR2, v_lc, q_v_asg, q_v_par, q_v_setD, q_v_expr, q_v_app, q_v_if, q_v_for, q_v_ret, o_add, o_sub, c_lt, c_le, c_gt, c_ge, a_add, R.bind_ok, R.bind_ex, R.bind_bad, R.st_ok, R.st_ex, R.st_bad, RS.seq_nx, RS.seq_rt, RS.seq_ex, RS.seq_bk, RS.seq_ct, RS.seq_bad, optR_some, optR_none, Tg.set, setAll, asB, Lt.truthy, isNon, biLE, getL_tmp, getM_tmp, Option.isSome_some, reduceIte, if_true, if_false, Bool.false_eq_true, Option.map_some, w0, w1, w2, w3, w4, w5, w6, w7, w8, w9, w10, w11, w12, w13, w14, w15, w16, w17, w18, w19, w20, w21, w22, w23, w24, x0, x1, x2, x3, x4, x5, x6, x7, x8, x9, x10, x11, x12, x13, x14, x15, x16, x17, x18, x19, x20, x21, x22, x23, x24, z0, z1, z2, z3, z4, z5, z6, z7, z8, z9, z10, z11, z12, z13, z14, z15, z16, z17, z18, z19, z20, z21, z22, z23, z24, y0, y1, y2, y3, y4, y5, y6, y7, y8, y9, y10, y11, y12, y13, y14, y15, y16, y17, y18, y19, y20, y21, y22, y23, y24, b13, tlS, c0, c1, c2, t0, intE, hin, Int.toNat_natCast, wipeR, List.map_cons, List.map_nil, e1, Th.e, biLE]
end K01
end
section
set_option Elab.async false
set_option linter.all false
set_option maxRecDepth 100000
set_option maxHeartbeats 1000000
/-! k01: the law's thing and tape, whole. -/
namespace K01
open PySem Lt
theorem thing_hd {k t m : Nat} {H : Hq} {deep : Nat} (h : IsT t H) : ∃ (w : Nat) (H2 : Hq), (hdS b13).ev (Pn (k + 1)) [some (.ref t), some (.int (deep : Int)), none, none, none] H = .nx [some (.ref t), some (.int (deep : Int)), some (.int (w : Int)), none, none] H2 ∧ Tp t H H2 ∧ w < 5 ∧ (deep = 0 → w < 3) := by
  by_cases hd : deep = 0
  · have h1 : decide ((deep : Int) > 0) = false := decide_eq_false (by omega)
    obtain ⟨d0, H0, t0, p0, l0⟩ := tk (k := k) (m := 3) h (by omega) (by omega)
    have t0 : (Pn (k + 1)).cl 12 [.ref t, .int 3] H = _ := t0
    refine ⟨d0, H0, ?_, p0, by omega, fun _ => l0⟩
    simp -implicitDefEqProofs only [Stms.ev, Stm.ev, Ex.ev, Ex.evT, Exs.ev, Exs.evAnd, Exs.evOr, Exs.evTAnd, Exs.evTOr, Ox.ev, Ox.evT, Lx.ev, It.ev, v_c, v_bin, v_cmp, v_bl, v_isN, v_ntN, v_not, v_tru, v_asB, v_and, v_or, v_if, v_tup, v_nil, v_cons, v_sub, v_onone, v_osome, v_slice, v_call, v_glb, v_ofE, v_disp, v_cat, v_bi1, v_biL, v_isi, v_inS, v_sidx, v_join, v_subL, v_new, v_dct, v_lenSet, v_yes, v_itL, v_itA, v_itR1, v_itR2, v_lc, q_v_asg, q_v_par, q_v_setD, q_v_expr, q_v_app, q_v_if, q_v_for, q_v_ret, o_add, o_sub, c_lt, c_le, c_gt, c_ge, a_add, R.bind_ok, R.bind_ex, R.bind_bad, R.st_ok, R.st_ex, R.st_bad, RS.seq_nx, RS.seq_rt, RS.seq_ex, RS.seq_bk, RS.seq_ct, RS.seq_bad, optR_some, optR_none, Tg.set, setAll, asB, Lt.truthy, isNon, biLE, getL_tmp, getM_tmp, Option.isSome_some, reduceIte, if_true, if_false, Bool.false_eq_true, Option.map_some, w0, w1, w2, w3, w4, w5, w6, w7, w8, w9, w10, w11, w12, w13, w14, w15, w16, w17, w18, w19, w20, w21, w22, w23, w24, x0, x1, x2, x3, x4, x5, x6, x7, x8, x9, x10, x11, x12, x13, x14, x15, x16, x17, x18, x19, x20, x21, x22, x23, x24, z0, z1, z2, z3, z4, z5, z6, z7, z8, z9, z10, z11, z12, z13, z14, z15, z16, z17, z18, z19, z20, z21, z22, z23, z24, y0, y1, y2, y3, y4, y5, y6, y7, y8, y9, y10, y11, y12, y13, y14, y15, y16, y17, y18, y19, y20, y21, y22, y23, y24, b13, hdS, h1, t0]
  · have h1 : decide ((deep : Int) > 0) = true := decide_eq_true (by omega)
    obtain ⟨d0, H0, t0, p0, l0⟩ := tk (k := k) (m := 5) h (by omega) (by omega)
    have t0 : (Pn (k + 1)).cl 12 [.ref t, .int 5] H = _ := t0
    refine ⟨d0, H0, ?_, p0, l0, fun h => absurd h hd⟩
    simp -implicitDefEqProofs only [Stms.ev, Stm.ev, Ex.ev, Ex.evT, Exs.ev, Exs.evAnd, Exs.evOr, Exs.evTAnd, Exs.evTOr, Ox.ev, Ox.evT, Lx.ev, It.ev, v_c, v_bin, v_cmp, v_bl, v_isN, v_ntN, v_not, v_tru, v_asB, v_and, v_or, v_if, v_tup, v_nil, v_cons, v_sub, v_onone, v_osome, v_slice, v_call, v_glb, v_ofE, v_disp, v_cat, v_bi1, v_biL, v_isi, v_inS, v_sidx, v_join, v_subL, v_new, v_dct, v_lenSet, v_yes, v_itL, v_itA, v_itR1, v_itR2, v_lc, q_v_asg, q_v_par, q_v_setD, q_v_expr, q_v_app, q_v_if, q_v_for, q_v_ret, o_add, o_sub, c_lt, c_le, c_gt, c_ge, a_add, R.bind_ok, R.bind_ex, R.bind_bad, R.st_ok, R.st_ex, R.st_bad, RS.seq_nx, RS.seq_rt, RS.seq_ex, RS.seq_bk, RS.seq_ct, RS.seq_bad, optR_some, optR_none, Tg.set, setAll, asB, Lt.truthy, isNon, biLE, getL_tmp, getM_tmp, Option.isSome_some, reduceIte, if_true, if_false, Bool.false_eq_true, Option.map_some, w0, w1, w2, w3, w4, w5, w6, w7, w8, w9, w10, w11, w12, w13, w14, w15, w16, w17, w18, w19, w20, w21, w22, w23, w24, x0, x1, x2, x3, x4, x5, x6, x7, x8, x9, x10, x11, x12, x13, x14, x15, x16, x17, x18, x19, x20, x21, x22, x23, x24, z0, z1, z2, z3, z4, z5, z6, z7, z8, z9, z10, z11, z12, z13, z14, z15, z16, z17, z18, z19, z20, z21, z22, z23, z24, y0, y1, y2, y3, y4, y5, y6, y7, y8, y9, y10, y11, y12, y13, y14, y15, y16, y17, y18, y19, y20, y21, y22, y23, y24, b13, hdS, h1, t0]
theorem law_thing_ok : ∀ (deep t k : Nat) (H : Hq), IsT t H → deep + 1 ≤ k → ∃ (th : Th) (H2 : Hq), cl (k + 1) 13 [.ref t, .int (deep : Int)] H = .ok th.e H2 ∧ Tp t H H2 ∧ th.dep ≤ deep + 1 ∧ th.sm := by
  intro deep
  induction deep with
  | zero =>
    intro t k H h hk
    obtain ⟨k, rfl⟩ : ∃ k', k = k' + 1 := ⟨k - 1, by omega⟩
    obtain ⟨w, H1, e1, p1, _, hw⟩ := thing_hd (k := k) (m := 0) (deep := 0) h
    obtain ⟨th, _, H2, e2, p2, hd, hs⟩ := thing_leaf (k := k) (dp := .int ((0 : Nat) : Int)) p1.1 (hw rfl)
    refine ⟨th, H2, ?_, p1.trans p2, by omega, hs⟩
    rw [cl_succ (fn := f13) rfl rfl]
    show endR false H (((hdS b13).ev (Pn (k + 1)) [some (.ref t), some (.int ((0 : Nat) : Int)), none, none, none] H).seq ((tlS b13).ev (Pn (k + 1)))) = _
    rw [e1, RS.seq_nx, e2]
    rfl
  | succ deep ih =>
    intro t k H h hk
    obtain ⟨k, rfl⟩ : ∃ k', k = k' + 1 := ⟨k - 1, by omega⟩
    obtain ⟨w, H1, e1, p1, _, hw⟩ := thing_hd (k := k) (m := 0) (deep := deep + 1) h
    have fin : ∀ (th : Th) (H2 : Hq), (tlS b13).ev (Pn (k + 1)) [some (.ref t), some (.int ((deep + 1 : Nat) : Int)), some (.int (w : Int)), none, none] H1 = .rt th.e H2 → Tp t H1 H2 → th.dep ≤ deep + 1 + 1 → th.sm → ∃ (th : Th) (H2 : Hq), cl (k + 1 + 1) 13 [.ref t, .int ((deep + 1 : Nat) : Int)] H = .ok th.e H2 ∧ Tp t H H2 ∧ th.dep ≤ deep + 1 + 1 ∧ th.sm := by
      intro th H2 e2 p2 hd hs
      refine ⟨th, H2, ?_, p1.trans p2, hd, hs⟩
      rw [cl_succ (fn := f13) rfl rfl]
      show endR false H (((hdS b13).ev (Pn (k + 1)) [some (.ref t), some (.int ((deep + 1 : Nat) : Int)), none, none, none] H).seq ((tlS b13).ev (Pn (k + 1)))) = _
      rw [e1, RS.seq_nx, e2]
      rfl
    by_cases hw3 : w < 3
    · obtain ⟨th, _, H2, e2, p2, hd, hs⟩ := thing_leaf (k := k) (dp := .int ((deep + 1 : Nat) : Int)) p1.1 hw3
      exact fin th H2 e2 p2 (by omega) hs
    · obtain ⟨th, H2, e2, p2, hd, hs⟩ := thing_tup (k := k) (dp := .int ((deep + 1 : Nat) : Int)) (D := deep + 1) p1.1 (show 3 ≤ w by omega) (by
        intro y H' hT
        obtain ⟨th, H3, g1, ⟨g2, v, rfl⟩, g3, g4⟩ := ih t k H' hT (by omega)
        refine ⟨th, v, ?_, g2, g3, g4⟩
        have hc : (Pn (k + 1)).cl 13 [.ref t, .int (((deep + 1 : Nat) : Int) - 1)] H' = .ok th.e (H'.set t v) := by
          rw [show (((deep + 1 : Nat) : Int) - 1) = (deep : Int) by omega]
          exact g1
        simp -implicitDefEqProofs only [Stms.ev, Stm.ev, Ex.ev, Ex.evT, Exs.ev, Exs.evAnd, Exs.evOr, Exs.evTAnd, Exs.evTOr, Ox.ev, Ox.evT, Lx.ev, It.ev, v_c, v_bin, v_cmp, v_bl, v_isN, v_ntN, v_not, v_tru, v_asB, v_and, v_or, v_if, v_tup, v_nil, v_cons, v_sub, v_onone, v_osome, v_slice, v_call, v_glb, v_ofE, v_disp, v_cat, v_bi1, v_biL, v_isi, v_inS, v_sidx, v_join, v_subL, v_new, v_dct, v_lenSet, v_yes, v_itL, v_itA, v_itR1, v_itR2, v_lc, q_v_asg, q_v_par, q_v_setD, q_v_expr, q_v_app, q_v_if, q_v_for, q_v_ret, o_add, o_sub, c_lt, c_le, c_gt, c_ge, a_add, R.bind_ok, R.bind_ex, R.bind_bad, R.st_ok, R.st_ex, R.st_bad, RS.seq_nx, RS.seq_rt, RS.seq_ex, RS.seq_bk, RS.seq_ct, RS.seq_bad, optR_some, optR_none, Tg.set, setAll, asB, Lt.truthy, isNon, biLE, getL_tmp, getM_tmp, Option.isSome_some, reduceIte, if_true, if_false, Bool.false_eq_true, Option.map_some, w0, w1, w2, w3, w4, w5, w6, w7, w8, w9, w10, w11, w12, w13, w14, w15, w16, w17, w18, w19, w20, w21, w22, w23, w24, x0, x1, x2, x3, x4, x5, x6, x7, x8, x9, x10, x11, x12, x13, x14, x15, x16, x17, x18, x19, x20, x21, x22, x23, x24, z0, z1, z2, z3, z4, z5, z6, z7, z8, z9, z10, z11, z12, z13, z14, z15, z16, z17, z18, z19, z20, z21, z22, z23, z24, y0, y1, y2, y3, y4, y5, y6, y7, y8, y9, y10, y11, y12, y13, y14, y15, y16, y17, y18, y19, y20, y21, y22, y23, y24, b13_0, hc])
      exact fin th H2 e2 p2 hd hs
/-! ### the tape -/
theorem seed_loop {k c : Nat} {H : Hq} {sc : E} {all : List E} (hc : H[c]? = some (.lst all)) : ∀ (l : List Int) (s : Int) (v : Option E), ∃ (v2 : Option E) (s2 : Int),
    forS (some c) all (.name ⟨1, "cell", ⟨97, 8, 97, 12⟩⟩) (b11_0.ev (Pn k)) (l.map E.int) [some sc, v, some (.ref c), some (.int s), none] H = .nx [some sc, v2, some (.ref c), some (.int s2), none] H
  | [], s, v => ⟨v, s, by
    rw [List.map_nil, for_end]
    show (match LH.get H (.pl c) with | some ys => E.eqbs ys all | none => false) = true
    have : LH.get H (.pl c) = some all := by
      show (match H[c]? with | some (.lst xs) => some xs | some (.rol xs) => some xs | _ => none) = _
      rw [hc]
    rw [this]
    exact E.eqbs_refl all⟩
  | x :: l, s, v => by
    have hst : staysB (some c) all H = true := by
      show (match LH.get H (.pl c) with | some ys => E.eqbs ys all | none => false) = true
      have : LH.get H (.pl c) = some all := by
        show (match H[c]? with | some (.lst xs) => some xs | some (.rol xs) => some xs | _ => none) = _
        rw [hc]
      rw [this]
      exact E.eqbs_refl all
    have m1 : mulOk s 31 = true := mulOk_r (by decide)
    have q1 : (0 : Int) < 2147483647 := by decide
    have e : b11_0.ev (Pn k) [some sc, some (.int x), some (.ref c), some (.int s), none] H = .nx [some sc, some (.int x), some (.ref c), some (.int ((s * 31 + x) % 2147483647)), none] H := by
      simp -implicitDefEqProofs only [Stms.ev, Stm.ev, Ex.ev, Ex.evT, Exs.ev, Exs.evAnd, Exs.evOr, Exs.evTAnd, Exs.evTOr, Ox.ev, Ox.evT, Lx.ev, It.ev, v_c, v_bin, v_cmp, v_bl, v_isN, v_ntN, v_not, v_tru, v_asB, v_and, v_or, v_if, v_tup, v_nil, v_cons, v_sub, v_onone, v_osome, v_slice, v_call, v_glb, v_ofE, v_disp, v_cat, v_bi1, v_biL, v_isi, v_inS, v_sidx, v_join, v_subL, v_new, v_dct, v_lenSet, v_yes, v_itL, v_itA, v_itR1, v_itR2, v_lc, q_v_asg, q_v_par, q_v_setD, q_v_expr, q_v_app, q_v_if, q_v_for, q_v_ret, o_add, o_sub, c_lt, c_le, c_gt, c_ge, a_add, R.bind_ok, R.bind_ex, R.bind_bad, R.st_ok, R.st_ex, R.st_bad, RS.seq_nx, RS.seq_rt, RS.seq_ex, RS.seq_bk, RS.seq_ct, RS.seq_bad, optR_some, optR_none, Tg.set, setAll, asB, Lt.truthy, isNon, biLE, getL_tmp, getM_tmp, Option.isSome_some, reduceIte, if_true, if_false, Bool.false_eq_true, Option.map_some, w0, w1, w2, w3, w4, w5, w6, w7, w8, w9, w10, w11, w12, w13, w14, w15, w16, w17, w18, w19, w20, w21, w22, w23, w24, x0, x1, x2, x3, x4, x5, x6, x7, x8, x9, x10, x11, x12, x13, x14, x15, x16, x17, x18, x19, x20, x21, x22, x23, x24, z0, z1, z2, z3, z4, z5, z6, z7, z8, z9, z10, z11, z12, z13, z14, z15, z16, z17, z18, z19, z20, z21, z22, z23, z24, y0, y1, y2, y3, y4, y5, y6, y7, y8, y9, y10, y11, y12, y13, y14, y15, y16, y17, y18, y19, y20, y21, y22, y23, y24, b11_0, bi1E, o_mul m1, o_mod q1]
    obtain ⟨v2, s2, h⟩ := seed_loop hc l ((s * 31 + x) % 2147483647) (some (.int x))
    refine ⟨v2, s2, ?_⟩
    rw [List.map_cons, for_nx hst rfl e, h]
def absI (z : Int) : Int := if z < 0 then -z else z
theorem lc_mapS {α : Type} {H : Hq} {st : Option Nat} {all : List E} {g f : α → E} {c : Sx Bool} {e : Sx E} {n : Nm} {ρ : Ro} (hs : staysB st all H = true) (hc : ∀ ρ, c ρ H = .ok true H) : ∀ (l : List α) (acc : List E), (∀ a ∈ l, e (ρ.set n.i (some (g a))) H = .ok (f a) H) → acc.length + l.length ≤ 16777216 →
    lcS st all (.name n) c e ρ (l.map g) acc H = .ok (acc ++ l.map f) H
  | [], acc, _, _ => by rw [List.map_nil, lc_end hs]; simp
  | a :: l, acc, he, hl => by
    rw [List.length_cons] at hl
    rw [List.map_cons, lc_turn (ρ1 := ρ.set n.i (some (g a))) hs rfl (hc _) (he a List.mem_cons_self) (by omega), lc_mapS hs hc l _ (fun b hb => he b (List.mem_cons_of_mem _ hb)) (by simp; omega)]
    simp
theorem law_tape_ok {k : Nat} {ns : List Int} (hn : ns.length ≤ 63) : ∃ H2, cl (k + 1) 11 [.ref 0] [.rol (ns.map E.int)] = .ok (.ref 2) H2 ∧ IsT 2 H2 ∧ H2.length = 3 := by
  rw [cl_succ (fn := f11) rfl rfl]
  show ∃ H2, endR false [.rol (ns.map E.int)] (b11.ev (Pn k) [some (.ref 0), none, none, none, none] [.rol (ns.map E.int)]) = .ok (.ref 2) H2 ∧ IsT 2 H2 ∧ H2.length = 3
  have hst : staysB (some 0) (ns.map E.int) [.rol (ns.map E.int)] = true := E.eqbs_refl _
  have e1 : lcS (some 0) (ns.map E.int) (.name ⟨1, "cell", ⟨95, 32, 95, 36⟩⟩) sYes (b11_1.ev (Pn k)) [some (.ref 0), none, none, none, none] (ns.map E.int) [] [.rol (ns.map E.int)] = .ok (ns.map fun z => E.int (absI z)) [.rol (ns.map E.int)] := by
    have h := lc_mapS (g := E.int) (f := fun z => E.int (absI z)) (c := sYes) (e := b11_1.ev (Pn k)) (n := ⟨1, "cell", ⟨95, 32, 95, 36⟩⟩) (ρ := [some (.ref 0), none, none, none, none]) hst (fun _ => rfl) ns [] (fun a _ => by
      simp -implicitDefEqProofs only [Stms.ev, Stm.ev, Ex.ev, Ex.evT, Exs.ev, Exs.evAnd, Exs.evOr, Exs.evTAnd, Exs.evTOr, Ox.ev, Ox.evT, Lx.ev, It.ev, v_c, v_bin, v_cmp, v_bl, v_isN, v_ntN, v_not, v_tru, v_asB, v_and, v_or, v_if, v_tup, v_nil, v_cons, v_sub, v_onone, v_osome, v_slice, v_call, v_glb, v_ofE, v_disp, v_cat, v_bi1, v_biL, v_isi, v_inS, v_sidx, v_join, v_subL, v_new, v_dct, v_lenSet, v_yes, v_itL, v_itA, v_itR1, v_itR2, v_lc, q_v_asg, q_v_par, q_v_setD, q_v_expr, q_v_app, q_v_if, q_v_for, q_v_ret, o_add, o_sub, c_lt, c_le, c_gt, c_ge, a_add, R.bind_ok, R.bind_ex, R.bind_bad, R.st_ok, R.st_ex, R.st_bad, RS.seq_nx, RS.seq_rt, RS.seq_ex, RS.seq_bk, RS.seq_ct, RS.seq_bad, optR_some, optR_none, Tg.set, setAll, asB, Lt.truthy, isNon, biLE, getL_tmp, getM_tmp, Option.isSome_some, reduceIte, if_true, if_false, Bool.false_eq_true, Option.map_some, w0, w1, w2, w3, w4, w5, w6, w7, w8, w9, w10, w11, w12, w13, w14, w15, w16, w17, w18, w19, w20, w21, w22, w23, w24, x0, x1, x2, x3, x4, x5, x6, x7, x8, x9, x10, x11, x12, x13, x14, x15, x16, x17, x18, x19, x20, x21, x22, x23, x24, z0, z1, z2, z3, z4, z5, z6, z7, z8, z9, z10, z11, z12, z13, z14, z15, z16, z17, z18, z19, z20, z21, z22, z23, z24, y0, y1, y2, y3, y4, y5, y6, y7, y8, y9, y10, y11, y12, y13, y14, y15, y16, y17, y18, y19, y20, y21, y22, y23, y24, b11_1, bi1E, absI]) (by simp; omega)
    rw [List.nil_append] at h
    exact h
  have hi : itE [.rol (ns.map E.int)] (.ref 0) = some (ns.map E.int, some 0) := rfl
  have hi2 : itE [.rol (ns.map E.int), .lst (ns.map fun z => E.int (absI z))] (.ref 1) = some (ns.map (fun z => E.int (absI z)), some 1) := rfl
  obtain ⟨v2, s2, hlp⟩ := seed_loop (k := k) (c := 1) (H := [.rol (ns.map E.int), .lst (ns.map fun z => E.int (absI z))]) (sc := .ref 0) (all := ns.map fun z => E.int (absI z)) rfl (ns.map absI) 7 none
  have hmm : (ns.map absI).map E.int = ns.map fun z => E.int (absI z) := by simp
  rw [hmm] at hlp
  have e : b11.ev (Pn k) [some (.ref 0), none, none, none, none] [.rol (ns.map E.int)] = .rt (.ref 2) ([.rol (ns.map E.int), .lst (ns.map fun z => E.int (absI z))] ++ [TD 1 0 0 s2 0]) := by
    have hap : ∀ (x y : Ob), [x] ++ [y] = [x, y] := fun _ _ => rfl
    have l1 : ∀ x : Ob, [x].length = 1 := fun _ => rfl
    have l2 : ∀ x y : Ob, [x, y].length = 2 := fun _ _ => rfl
    simp -implicitDefEqProofs only [Stms.ev, Stm.ev, Ex.ev, Ex.evT, Exs.ev, Exs.evAnd, Exs.evOr, Exs.evTAnd, Exs.evTOr, Ox.ev, Ox.evT, Lx.ev, It.ev, v_c, v_bin, v_cmp, v_bl, v_isN, v_ntN, v_not, v_tru, v_asB, v_and, v_or, v_if, v_tup, v_nil, v_cons, v_sub, v_onone, v_osome, v_slice, v_call, v_glb, v_ofE, v_disp, v_cat, v_bi1, v_biL, v_isi, v_inS, v_sidx, v_join, v_subL, v_new, v_dct, v_lenSet, v_yes, v_itL, v_itA, v_itR1, v_itR2, v_lc, q_v_asg, q_v_par, q_v_setD, q_v_expr, q_v_app, q_v_if, q_v_for, q_v_ret, o_add, o_sub, c_lt, c_le, c_gt, c_ge, a_add, R.bind_ok, R.bind_ex, R.bind_bad, R.st_ok, R.st_ex, R.st_bad, RS.seq_nx, RS.seq_rt, RS.seq_ex, RS.seq_bk, RS.seq_ct, RS.seq_bad, optR_some, optR_none, Tg.set, setAll, asB, Lt.truthy, isNon, biLE, getL_tmp, getM_tmp, Option.isSome_some, reduceIte, if_true, if_false, Bool.false_eq_true, Option.map_some, w0, w1, w2, w3, w4, w5, w6, w7, w8, w9, w10, w11, w12, w13, w14, w15, w16, w17, w18, w19, w20, w21, w22, w23, w24, x0, x1, x2, x3, x4, x5, x6, x7, x8, x9, x10, x11, x12, x13, x14, x15, x16, x17, x18, x19, x20, x21, x22, x23, x24, z0, z1, z2, z3, z4, z5, z6, z7, z8, z9, z10, z11, z12, z13, z14, z15, z16, z17, z18, z19, z20, z21, z22, z23, z24, y0, y1, y2, y3, y4, y5, y6, y7, y8, y9, y10, y11, y12, y13, y14, y15, y16, y17, y18, y19, y20, y21, y22, y23, y24, b11, hi, wipeR, List.map_cons, List.map_nil, e1, l1, hap, hi2, hlp, l2]
    rfl
  rw [e]
  refine ⟨_, rfl, ?_, rfl⟩
  refine ⟨1, ns.map absI, 0, 0, s2, 0, by omega, by rw [hmm]; rfl, ?_, by omega, rfl⟩
  intro x hx
  obtain ⟨z, _, rfl⟩ := List.mem_map.mp hx
  unfold absI
  split <;> omega
end K01
end
section
set_option Elab.async false
set_option linter.all false
set_option maxRecDepth 100000
set_option maxHeartbeats 1000000
/-! k01, plain: cut rows, the law's own check. -/
namespace K01
open PySem Lt
theorem dgo_cut : ∀ (m n j : Nat) (b : Bool) (f s : Nat), n ≤ m → j < (num n).length → dgo b f s ((num n).take j) = none
  | 0, n, j, b, f, s, hm, hj => by
    have hn : n = 0 := by omega
    subst hn
    rw [num_lt (by omega)] at hj ⊢
    have : j = 0 := by simpa using hj
    subst this
    rfl
  | m + 1, n, j, b, f, s, hm, hj => by
    by_cases h : n < 128
    · rw [num_lt h] at hj ⊢
      have : j = 0 := by simpa using hj
      subst this
      rfl
    · rw [num_ge h] at hj ⊢
      cases j with
      | zero => rfl
      | succ j =>
        rw [List.take_succ_cons]
        show (if n % 128 + 128 < 128 then _ else dgo false (f + (n % 128 + 128) % 128 * s) (s * 128) ((num (n / 128)).take j)) = _
        rw [if_neg (by omega)]
        exact dgo_cut m (n / 128) j _ _ _ (by omega) (by simpa using hj)
theorem dnum_cut {n j : Nat} (hj : j < (num n).length) : dnum ((num n).take j) = none := dgo_cut n n j true 0 1 (Nat.le_refl _) hj
/-- a row that is cut off is refused -/
theorem dsld_cut {x : Th} {size : Nat} (h : size < (sld x).length) : dsld ((sld x).take size) = none := by
  unfold sld at h ⊢
  rw [List.append_assoc] at h ⊢
  rw [List.take_append]
  rw [List.length_append] at h
  unfold dsld
  by_cases h1 : size < (num (enc x).length).length
  · rw [show size - (num (enc x).length).length = 0 by omega, List.take_zero, List.append_nil, dnum_cut h1]
  · rw [List.take_of_length_le (by omega), dnum_num]
    dsimp only
    rw [List.take_append]
    by_cases h2 : size - (num (enc x).length).length < (num (csum (enc x))).length
    · rw [show size - (num (enc x).length).length - (num (csum (enc x))).length = 0 by omega, List.take_zero, List.append_nil, dnum_cut h2]
    · rw [List.take_of_length_le (by omega), dnum_num]
      dsimp only
      rw [List.length_append] at h
      rw [if_pos (.inr (.inl (by rw [List.length_take, List.length_take]; omega)))]
/-- the sums as the law makes them -/
def sgo : List Nat → Nat → Nat → Nat × Nat
  | [], lo, hi => (lo, hi)
  | a :: r, lo, hi => sgo r (lo + a) (hi + (lo + a))
theorem cgo_sgo : ∀ (l : List Nat) (lo hi lo2 hi2 : Nat), lo = lo2 % 65521 → hi = hi2 % 65521 → cgo l lo hi = ((sgo l lo2 hi2).1 % 65521, (sgo l lo2 hi2).2 % 65521)
  | [], lo, hi, lo2, hi2, h1, h2 => by rw [h1, h2]; rfl
  | a :: r, lo, hi, lo2, hi2, h1, h2 => by
    show cgo r _ _ = ((sgo r (lo2 + a) (hi2 + (lo2 + a))).1 % 65521, (sgo r (lo2 + a) (hi2 + (lo2 + a))).2 % 65521)
    exact cgo_sgo r _ _ _ _ (by omega) (by omega)
theorem csum_sgo (l : List Nat) : csum l = (sgo l 1 0).2 % 65521 * 65521 + (sgo l 1 0).1 % 65521 := by
  unfold csum
  rw [cgo_sgo l 1 0 1 0 rfl rfl]
theorem sgo_lo : ∀ (l : List Nat) (lo hi : Nat), (sgo l lo hi).1 = lo + l.sum
  | [], lo, hi => by simp [sgo]
  | a :: r, lo, hi => by
    show (sgo r (lo + a) (hi + (lo + a))).1 = _
    rw [sgo_lo r, List.sum_cons]
    omega
theorem csum_nil : csum [] = 1 := by decide
theorem dec_deep : ∀ (left : Nat) (n : Nat) (r : List Nat), left ≤ n → dec left ((List.replicate n [3, 1]).flatten ++ r) = none
  | 0, n, r, _ => rfl
  | left + 1, 0, r, h => by omega
  | left + 1, n + 1, r, h => by
    have e : (List.replicate (n + 1) [3, 1]).flatten ++ r = 3 :: (num 1 ++ ((List.replicate n [3, 1]).flatten ++ r)) := by
      rw [List.replicate_succ, List.flatten_cons, num_lt (by omega)]
      rfl
    rw [e, dec_m3 (dnum_num _ _)]
    have ih := dec_deep left n r (by omega)
    show (match dec left ((List.replicate n [3, 1]).flatten ++ r) with
      | none => none
      | some (x, r) => match rep (dec left) 0 r with
        | none => none
        | some (xs, r2) => some (x :: xs, r2)).map _ = _
    rw [ih]
    rfl
end K01
end
section
set_option Elab.async false
set_option linter.all false
set_option maxRecDepth 100000
set_option maxHeartbeats 1000000
/-! k01, plain: how large the drawn things are. -/
namespace K01
open PySem Lt
def mkrun : List Nat → Nat
  | [] => 0
  | a :: r => if a < 128 then 0 else mkrun r + 1
def Sh : List Nat → Prop
  | [] => True
  | a :: r => mkrun (a :: r) ≤ 4 ∧ Sh r
theorem Sh_lo {a : Nat} {r : List Nat} (h : a < 128) (hr : Sh r) : Sh (a :: r) := by
  refine ⟨?_, hr⟩
  unfold mkrun
  rw [if_pos h]
  omega
theorem Sh_los : ∀ {l r : List Nat}, (∀ a ∈ l, a < 128) → Sh r → Sh (l ++ r)
  | [], r, _, hr => hr
  | a :: l, r, h, hr => Sh_lo (h a List.mem_cons_self) (Sh_los (fun b hb => h b (List.mem_cons_of_mem _ hb)) hr)
theorem mkrun_num : ∀ (k n : Nat) (r : List Nat), n < 128 ^ (k + 1) → mkrun (num n ++ r) ≤ k
  | 0, n, r, h => by
    rw [num_lt (by simpa using h)]
    show (if n < 128 then 0 else _) ≤ 0
    rw [if_pos (by simpa using h)]
    omega
  | k + 1, n, r, h => by
    by_cases hn : n < 128
    · rw [num_lt hn]
      show (if n < 128 then 0 else _) ≤ _
      rw [if_pos hn]
      omega
    · rw [num_ge hn]
      show (if n % 128 + 128 < 128 then 0 else mkrun (num (n / 128) ++ r) + 1) ≤ _
      rw [if_neg (by omega)]
      have := mkrun_num k (n / 128) r (by
        rw [Nat.div_lt_iff_lt_mul (by omega)]
        rw [Nat.pow_succ] at h
        exact h)
      omega
theorem Sh_num : ∀ (k n : Nat) (r : List Nat), k ≤ 4 → n < 128 ^ (k + 1) → Sh r → Sh (num n ++ r)
  | 0, n, r, _, h, hr => by
    rw [num_lt (by simpa using h)]
    exact Sh_lo (by simpa using h) hr
  | k + 1, n, r, hk, h, hr => by
    by_cases hn : n < 128
    · rw [num_lt hn]
      exact Sh_lo hn hr
    · have h1 := mkrun_num (k + 1) n r h
      rw [num_ge hn] at h1 ⊢
      refine ⟨by show mkrun ((n % 128 + 128) :: (num (n / 128) ++ r)) ≤ 4; exact Nat.le_trans h1 (by omega), ?_⟩
      exact Sh_num k (n / 128) r (by omega) (by
        rw [Nat.div_lt_iff_lt_mul (by omega)]
        rw [Nat.pow_succ] at h
        exact h) hr
theorem OkN_lt {n : Nat} (h : OkN n) : n < 128 ^ 5 := by
  rcases h with h | h | h | ⟨j, h1, h2⟩ <;> omega
mutual
theorem Sh_enc : ∀ (x : Th) (r : List Nat), x.sm → Sh r → Sh (enc x ++ r)
  | .non, r, _, hr => by
    unfold enc
    exact Sh_lo (by omega) hr
  | .num n, r, h, hr => by
    unfold Th.sm at h
    unfold enc
    exact Sh_lo (by omega) (Sh_num 4 n r (by omega) (OkN_lt h) hr)
  | .str l, r, h, hr => by
    unfold Th.sm at h
    unfold enc
    rw [List.cons_append, List.append_assoc]
    exact Sh_lo (by omega) (Sh_num 0 _ _ (by omega) (by omega) (Sh_los (fun a ha => by have := h.2 a ha; omega) hr))
  | .tup xs, r, h, hr => by
    unfold Th.sm at h
    unfold enc
    rw [List.cons_append, List.append_assoc]
    exact Sh_lo (by omega) (Sh_num 0 _ _ (by omega) (by omega) (Sh_encs xs r h.2 hr))
theorem Sh_encs : ∀ (xs : List Th) (r : List Nat), Th.sms xs → Sh r → Sh (encs xs ++ r)
  | [], r, _, hr => by
    unfold encs
    exact hr
  | x :: xs, r, h, hr => by
    unfold Th.sms at h
    unfold encs
    rw [List.append_assoc]
    exact Sh_enc x _ h.1 (Sh_encs xs r h.2 hr)
end
theorem Sh_drop : ∀ {l : List Nat} (j : Nat), Sh l → Sh (l.drop j)
  | l, 0, h => h
  | [], j + 1, h => h
  | a :: l, j + 1, h => Sh_drop (l := l) j h.2
theorem dgo_bd : ∀ {l : List Nat} {b : Bool} {f s v : Nat} {r : List Nat}, dgo b f s l = some (v, r) → v ≤ f + s * (128 ^ (mkrun l + 1) - 1)
  | [], _, _, _, _, _, h => by cases h
  | a :: l, b, f, s, v, r, h => by
    unfold dgo at h
    unfold mkrun
    split at h
    · rename_i ha
      rw [if_pos ha]
      split at h
      · cases h
      · cases h
        have : a % 128 * s ≤ 127 * s := Nat.mul_le_mul_right s (by omega)
        show _ ≤ f + s * 127
        rw [Nat.mul_comm s 127]
        omega
    · rename_i ha
      rw [if_neg ha]
      have ih := dgo_bd h
      have h1 : a % 128 * s ≤ 127 * s := Nat.mul_le_mul_right s (by omega)
      have hp : 1 ≤ 128 ^ (mkrun l + 1) := Nat.one_le_pow _ _ (by omega)
      have e : s * (128 ^ (mkrun l + 1 + 1) - 1) = s * 128 * (128 ^ (mkrun l + 1) - 1) + 127 * s := by
        rw [Nat.pow_succ, Nat.mul_assoc, Nat.mul_comm 127 s, ← Nat.mul_add]
        congr 1
        rw [Nat.mul_sub]
        omega
      omega
theorem dnum_bd {l : List Nat} {v : Nat} {r : List Nat} (hs : Sh l) (h : dnum l = some (v, r)) : v < 2 ^ 35 := by
  have h1 := dgo_bd h
  have h2 : mkrun l ≤ 4 := by
    cases l with
    | nil => show 0 ≤ 4; omega
    | cons a l => exact hs.1
  have h3 : 128 ^ (mkrun l + 1) ≤ 128 ^ 5 := Nat.pow_le_pow_right (by omega) (by omega)
  omega
theorem Small_of {l : List Nat} (h : Sh l) : Small l := by
  intro j v r hd
  have := dnum_bd (Sh_drop j h) hd
  omega
theorem Small_enc {x : Th} (h : x.sm) : Small (enc x) := by
  have := Sh_enc x [] h trivial
  rw [List.append_nil] at this
  exact Small_of this
mutual
theorem fit_of : ∀ (x : Th), x.sm → x.fit
  | .non, _ => by unfold Th.fit; trivial
  | .num n, h => by
    unfold Th.sm at h
    unfold Th.fit
    have := OkN_lt h
    omega
  | .str l, h => by
    unfold Th.sm at h
    unfold Th.fit
    exact ⟨by omega, h.2⟩
  | .tup xs, h => by
    unfold Th.sm at h
    unfold Th.fit
    exact ⟨by omega, fits_of xs h.2⟩
theorem fits_of : ∀ (xs : List Th), Th.sms xs → Th.fits xs
  | [], _ => by unfold Th.fits; trivial
  | x :: r, h => by
    unfold Th.sms at h
    unfold Th.fits
    exact ⟨fit_of x h.1, fits_of r h.2⟩
end
/-- how many bytes at a depth -/
def big : Nat → Nat
  | 0 => 6
  | d + 1 => 2 + 3 * big d
theorem big_six : ∀ d, 6 ≤ big d
  | 0 => by show 6 ≤ 6; omega
  | d + 1 => by have := big_six d; show 6 ≤ 2 + 3 * big d; omega
mutual
theorem enc_big : ∀ (x : Th) (d : Nat), x.sm → x.dep ≤ d + 1 → (enc x).length ≤ big d
  | .non, d, _, _ => by
    unfold enc
    have := big_six d
    simp; omega
  | .num n, d, h, _ => by
    unfold Th.sm at h
    have h1 := numI_len 4 n (OkN_lt h)
    unfold enc num
    have := big_six d
    simp; omega
  | .str l, d, h, _ => by
    unfold Th.sm at h
    unfold enc
    have := big_six d
    rw [num_lt (by omega)]
    simp; omega
  | .tup xs, 0, h, hd => by
    unfold Th.dep at hd
    unfold Th.sm at h
    have h0 : xs.length = 0 := by
      cases xs with
      | nil => rfl
      | cons x r =>
        unfold Th.deps at hd
        have : 1 ≤ x.dep := by cases x <;> (show (1 : Nat) ≤ _; unfold Th.dep; omega)
        omega
    have h1 := encs_big xs 0 h.2
    have hx : xs = [] := List.length_eq_zero_iff.mp h0
    subst hx
    unfold enc encs
    rw [num_lt (by simp)]
    show _ ≤ 6
    simp
  | .tup xs, d + 1, h, hd => by
    unfold Th.dep at hd
    unfold Th.sm at h
    have h1 := encs_big xs d h.2 (by omega)
    unfold enc
    rw [num_lt (by omega)]
    show _ ≤ 2 + 3 * big d
    have : xs.length * big d ≤ 3 * big d := Nat.mul_le_mul_right _ h.1
    simp; omega
theorem encs_big : ∀ (xs : List Th) (d : Nat), Th.sms xs → Th.deps xs ≤ d + 1 → (encs xs).length ≤ xs.length * big d
  | [], d, _, _ => by unfold encs; simp
  | x :: r, d, h, hd => by
    unfold Th.sms at h
    unfold Th.deps at hd
    have h1 := enc_big x d h.1 (by omega)
    have h2 := encs_big r d h.2 (by omega)
    unfold encs
    rw [List.length_append, List.length_cons, Nat.succ_mul]
    omega
end
theorem enc_188 {x : Th} (h : x.sm) (hd : x.dep ≤ 4) : (enc x).length ≤ 188 := enc_big x 3 h hd
end K01
end
section
set_option Elab.async false
set_option linter.all false
set_option maxRecDepth 100000
set_option maxHeartbeats 1000000
/-! k01, plain: a row read one token after the other. -/
namespace K01
open PySem Lt
/-- so many things are still to be read, and then the row is done -/
inductive Pf : Nat → List Nat → Prop where
  | nil : Pf 0 []
  | non {R : Nat} {r : List Nat} : Pf R r → Pf (R + 1) (0 :: r)
  | num {R v : Nat} {l r : List Nat} : dnum l = some (v, r) → Pf R r → Pf (R + 1) (1 :: l)
  | str {R : Nat} {l t r : List Nat} : dtxt l = some (t, r) → Pf R r → Pf (R + 1) (2 :: l)
  | tup {R c : Nat} {l r : List Nat} : dnum l = some (c, r) → Pf (R + c) r → Pf (R + 1) (3 :: l)
theorem rep_Pf {f : List Nat → Option (Th × List Nat)} (hf : ∀ l x r R, f l = some (x, r) → Pf R r → Pf (R + 1) l) : ∀ (n : Nat) (l : List Nat) (xs : List Th) (r : List Nat) (R : Nat), rep f n l = some (xs, r) → Pf R r → Pf (R + n) l
  | 0, l, xs, r, R, h, hp => by cases h; exact hp
  | n + 1, l, xs, r, R, h, hp => by
    unfold rep at h
    split at h
    · cases h
    · rename_i x r1 h1
      split at h
      · cases h
      · rename_i xs2 r2 h2
        cases h
        exact hf l x r1 (R + n) h1 (rep_Pf hf n r1 xs2 r R h2 hp)
theorem dec_Pf : ∀ (left : Nat) (l : List Nat) (x : Th) (r : List Nat) (R : Nat), dec left l = some (x, r) → Pf R r → Pf (R + 1) l
  | 0, l, x, r, R, h, _ => by cases h
  | left + 1, [], x, r, R, h, _ => by cases h
  | left + 1, m :: l, x, r, R, h, hp => by
    match m, h with
    | 0, h =>
      rw [dec_m0] at h
      cases h
      exact .non hp
    | 1, h =>
      rw [dec_m1] at h
      cases q : dnum l with
      | none => rw [q] at h; cases h
      | some p => rw [q] at h; cases h; exact .num q hp
    | 2, h =>
      rw [dec_m2] at h
      cases q : dtxt l with
      | none => rw [q] at h; cases h
      | some p => rw [q] at h; cases h; exact .str q hp
    | 3, h =>
      cases q : dnum l with
      | none => rw [dec_m3n q] at h; cases h
      | some p =>
        obtain ⟨n, r2⟩ := p
        rw [dec_m3 q] at h
        cases q2 : rep (dec left) n r2 with
        | none => rw [q2] at h; cases h
        | some p2 =>
          rw [q2] at h
          cases h
          exact .tup q (rep_Pf (dec_Pf left) n r2 p2.1 p2.2 R q2 hp)
    | m + 4, h => rw [dec_mx (by omega)] at h; cases h
/-- a row of tokens -/
inductive Tks : List Nat → Prop where
  | nil : Tks []
  | non {r : List Nat} : Tks r → Tks (0 :: r)
  | num {r : List Nat} (v : Nat) : Tks r → Tks (1 :: (num v ++ r))
  | str {r : List Nat} (l : List Nat) : (∀ i ∈ l, i < 91) → Tks r → Tks (2 :: (num l.length ++ (l ++ r)))
  | tup {r : List Nat} (c : Nat) : Tks r → Tks (3 :: (num c ++ r))
mutual
theorem Tks_enc : ∀ (x : Th) (r : List Nat), x.fit → Tks r → Tks (enc x ++ r)
  | .non, r, _, h => by
    unfold enc
    exact .non h
  | .num n, r, _, h => by
    unfold enc
    exact .num n h
  | .str l, r, hf, h => by
    unfold Th.fit at hf
    unfold enc
    rw [List.cons_append, List.append_assoc]
    exact .str l hf.2 h
  | .tup xs, r, hf, h => by
    unfold Th.fit at hf
    unfold enc
    rw [List.cons_append, List.append_assoc]
    exact .tup _ (Tks_encs xs r hf.2 h)
theorem Tks_encs : ∀ (xs : List Th) (r : List Nat), Th.fits xs → Tks r → Tks (encs xs ++ r)
  | [], r, _, h => by
    unfold encs
    exact h
  | x :: xs, r, hf, h => by
    unfold Th.fits at hf
    unfold encs
    rw [List.append_assoc]
    exact Tks_enc x _ hf.1 (Tks_encs xs r hf.2 h)
end
theorem Tks_one : ¬ Tks [1] := by
  intro h
  generalize hw : [1] = w at h
  cases h with
  | nil => cases hw
  | non h => cases hw
  | num v h =>
    have := num_ne v
    have h2 : num v ++ _ = [] := (List.cons.inj hw).2.symm
    exact this (List.append_eq_nil_iff.mp h2).1
  | str l _ h => cases hw
  | tup c h => cases hw
theorem Pf_zero {l : List Nat} (h : Pf 0 l) : l = [] := by
  cases h
  rfl
/-- a list that ends in 1, its front known -/
theorem app_last {p r u : List Nat} (h : p ++ r = u ++ [1]) : (r = [] ∧ p = u ++ [1]) ∨ ∃ s, r = s ++ [1] ∧ u = p ++ s := by
  cases hr : r.reverse with
  | nil =>
    have : r = [] := by simpa using hr
    subst this
    exact .inl ⟨rfl, by simpa using h⟩
  | cons a s =>
    have e : r = s.reverse ++ [a] := by
      have := congrArg List.reverse hr
      simpa using this
    subst e
    rw [← List.append_assoc] at h
    have h2 := List.append_inj' h rfl
    obtain ⟨h3, h4⟩ := h2
    cases h4
    exact .inr ⟨s.reverse, rfl, h3.symm⟩
theorem dgo_ext : ∀ {l : List Nat} {b : Bool} {f s v : Nat} {r : List Nat} (t : List Nat), dgo b f s l = some (v, r) → dgo b f s (l ++ t) = some (v, r ++ t)
  | [], _, _, _, _, _, t, h => by cases h
  | a :: l, b, f, s, v, r, t, h => by
    unfold dgo at h
    rw [List.cons_append]
    unfold dgo
    split at h
    · rename_i ha
      rw [if_pos ha]
      split at h
      · cases h
      · rename_i h2
        rw [if_neg h2]
        cases h
        rfl
    · rename_i ha
      rw [if_neg ha]
      exact dgo_ext t h
theorem dnum_ext {l : List Nat} {v : Nat} {r : List Nat} (t : List Nat) (h : dnum l = some (v, r)) : dnum (l ++ t) = some (v, r ++ t) := dgo_ext t h
/-- a number without its last byte -/
theorem dnum_short {n : Nat} {u : List Nat} {a : Nat} (h : num n = u ++ [a]) : dnum u = none := by
  have e : u = (num n).take u.length := by rw [h]; simp
  rw [e]
  exact dnum_cut (by rw [h]; simp)
theorem al_step {r s : List Nat} {R : Nat} (ih : ∀ u R, r = u ++ [1] → Pf (R + 1) u → False) (hk : Tks r) (h : r = s ++ [1]) (hp : Pf R s) : False := by
  cases R with
  | zero =>
    have := Pf_zero hp
    subst this
    rw [h] at hk
    exact Tks_one hk
  | succ R => exact ih s R h hp
/-- at a token's start the row is not read to its end but one -/
theorem aligned {w : List Nat} (hw : Tks w) : ∀ u R, w = u ++ [1] → Pf (R + 1) u → False := by
  induction hw with
  | nil => intro u R h; simp at h
  | @non r hk ih =>
    intro u R h hp
    rcases app_last (p := [0]) h with ⟨_, h2⟩ | ⟨s, h2, h3⟩
    · have := List.append_inj' (s₁ := []) h2 rfl
      cases this.2
    · subst h3
      cases hp with
      | non hp => exact al_step ih hk h2 hp
  | @num r v hk ih =>
    intro u R h hp
    rcases app_last (p := 1 :: num v) h with ⟨_, h2⟩ | ⟨s, h2, h3⟩
    · cases u with
      | nil => exact num_ne v (List.cons.inj h2).2
      | cons a u =>
        have h4 := List.cons.inj h2
        rw [← h4.1] at hp
        cases hp with
        | num q hp => rw [dnum_short h4.2] at q; cases q
    · subst h3
      cases hp with
      | num q hp =>
        have q := (show dnum (num v ++ s) = _ from q)
        rw [dnum_num] at q
        cases q
        exact al_step ih hk h2 hp
  | @str r l hl hk ih =>
    intro u R h hp
    rcases app_last (p := 2 :: (num l.length ++ l)) (r := r) (u := u) (by rw [List.cons_append, List.append_assoc]; exact h) with ⟨_, h2⟩ | ⟨s, h2, h3⟩
    · cases u with
      | nil => have := (List.cons.inj h2).1; omega
      | cons a u =>
        have h4 := List.cons.inj h2
        rw [← h4.1] at hp
        cases hp with
        | str q hp =>
          rcases app_last h4.2 with ⟨h5, h6⟩ | ⟨s, h5, h6⟩
          · unfold dtxt at q
            rw [dnum_short h6] at q
            cases q
          · subst h6
            unfold dtxt at q
            rw [dnum_num] at q
            dsimp only at q
            rw [if_pos (.inl (by rw [List.length_take, h5]; simp))] at q
            cases q
    · subst h3
      cases hp with
      | str q hp =>
        have q := (show dtxt ((num l.length ++ l) ++ s) = _ from q)
        rw [List.append_assoc, dtxt_put hl] at q
        cases q
        exact al_step ih hk h2 hp
  | @tup r c hk ih =>
    intro u R h hp
    rcases app_last (p := 3 :: num c) h with ⟨_, h2⟩ | ⟨s, h2, h3⟩
    · cases u with
      | nil => have := (List.cons.inj h2).1; omega
      | cons a u =>
        have h4 := List.cons.inj h2
        rw [← h4.1] at hp
        cases hp with
        | tup q hp => rw [dnum_short h4.2] at q; cases q
    · subst h3
      cases hp with
      | tup q hp =>
        have q := (show dnum (num c ++ s) = _ from q)
        rw [dnum_num] at q
        cases q
        exact al_step ih hk h2 hp
end K01
end
section
set_option Elab.async false
set_option linter.all false
set_option maxRecDepth 100000
set_option maxHeartbeats 1000000
/-! k01, plain: what a shifted reading costs. -/
namespace K01
open PySem Lt
def byt (L : List (Nat × Nat)) : List Nat := L.map fun e => e.1
def dfc (L : List (Nat × Nat)) : Nat := (L.map fun e => e.2).sum
def Gd : List (Nat × Nat) → Prop
  | [] => True
  | e :: r => (Tks (byt (e :: r)) ∨ 4 ≤ e.1 ∨ 87 ≤ e.2 ∨ (e.1 = 3 ∧ ∃ m d t, r = (m, d) :: t ∧ 87 ≤ d + 87 * m)) ∧ Gd r
theorem Gd_drop : ∀ {L : List (Nat × Nat)} (j : Nat), Gd L → Gd (L.drop j)
  | L, 0, h => h
  | [], j + 1, h => h
  | e :: L, j + 1, h => Gd_drop (L := L) j h.2
theorem dfs_drop : ∀ (L : List (Nat × Nat)) (j : Nat), dfc (L.drop j) ≤ dfc L
  | L, 0 => Nat.le_refl _
  | [], j + 1 => Nat.le_refl _
  | e :: L, j + 1 => by
    have := dfs_drop L j
    show dfc (L.drop j) ≤ ((e :: L).map fun e => e.2).sum
    rw [List.map_cons, List.sum_cons]
    unfold dfc at *
    omega
theorem dfs_cons (e : Nat × Nat) (L : List (Nat × Nat)) : dfc (e :: L) = e.2 + dfc L := by
  unfold dfc
  rw [List.map_cons, List.sum_cons]
theorem byt_drop {L : List (Nat × Nat)} {p u : List Nat} (h : byt L = p ++ u) : byt (L.drop p.length) = u := by
  unfold byt at *
  rw [List.map_drop, h]
  simp
theorem Pf_step {R m : Nat} {l : List Nat} (h : Pf (R + 1) (m :: l)) : ∃ (R2 : Nat) (p u : List Nat), l = p ++ u ∧ R ≤ R2 ∧ Pf R2 u := by
  cases h with
  | non h => exact ⟨R, [], l, rfl, Nat.le_refl _, h⟩
  | num q h =>
    obtain ⟨p, e⟩ := dgo_suffix q
    exact ⟨R, p, _, e, Nat.le_refl _, h⟩
  | str q h =>
    obtain ⟨p, e⟩ := dtxt_suffix q
    exact ⟨R, p, _, e, Nat.le_refl _, h⟩
  | tup q h =>
    obtain ⟨p, e⟩ := dgo_suffix q
    exact ⟨_, p, _, e, Nat.le_add_right _ _, h⟩
theorem Pf_mark {R m : Nat} {l : List Nat} (h : Pf (R + 1) (m :: l)) : m < 4 := by
  cases h <;> omega
theorem dnum_lo {a : Nat} {l : List Nat} (h : a < 128) : dnum (a :: l) = some (a, l) := by
  have := dnum_num a l
  rw [num_lt h] at this
  exact this
theorem pot : ∀ (k : Nat) (L : List (Nat × Nat)) (R : Nat) (u : List Nat), L.length ≤ k → byt L = u ++ [1] → Gd L → (∀ a ∈ byt L, a < 128) → Pf R u → 87 * R ≤ dfc L
  | k, L, 0, u, _, _, _, _, _ => by omega
  | k, [], R + 1, u, _, h, _, _, _ => by
    have := congrArg List.length h
    simp [byt] at this
  | 0, e :: L, R + 1, u, hk, _, _, _, _ => by simp at hk
  | k + 1, e :: L, R + 1, u, hk, h, hg, hb, hp => by
    have hk : L.length ≤ k := by simpa using hk
    obtain ⟨m, l, rfl⟩ : ∃ m l, u = m :: l := by
      cases u with
      | nil => cases hp
      | cons m l => exact ⟨m, l, rfl⟩
    have h1 := List.cons.inj (show e.1 :: byt L = m :: (l ++ [1]) from h)
    obtain ⟨h1, h2⟩ := h1
    have hbL : ∀ a ∈ byt L, a < 128 := fun a ha => hb a (List.mem_cons_of_mem _ ha)
    rw [dfs_cons]
    rcases hg.1 with g | g | g | ⟨g, m2, d2, t, rfl, g2⟩
    · exact absurd hp (fun hp => aligned g _ R h hp)
    · have := Pf_mark hp
      omega
    · obtain ⟨R2, p, u2, rfl, hR, hp2⟩ := Pf_step hp
      have e1 : byt (L.drop p.length) = u2 ++ [1] := byt_drop (by rw [h2, List.append_assoc])
      have ih := pot k (L.drop p.length) R2 u2 (by rw [List.length_drop]; omega) e1 (Gd_drop _ hg.2) (fun a ha => hbL a (by
        rw [h2, List.append_assoc]
        rw [e1] at ha
        exact List.mem_append_right _ ha)) hp2
      have := dfs_drop L p.length
      omega
    · rw [h1] at g
      subst g
      have hm2 : m2 < 128 := hbL m2 List.mem_cons_self
      cases hp with
      | tup q hp =>
        cases l with
        | nil => cases q
        | cons a l =>
          have h3 := List.cons.inj (show m2 :: byt t = a :: (l ++ [1]) from h2)
          rw [← h3.1, dnum_lo hm2] at q
          cases q
          have ih := pot k t (R + m2) _ (by simp at hk; omega) h3.2 hg.2.2 (fun a ha => hbL a (List.mem_cons_of_mem _ ha)) hp
          rw [dfs_cons]
          show 87 * (R + 1) ≤ e.2 + (d2 + dfc t)
          omega
/-! no large byte -/
def Hi : List Nat → Prop
  | [] => True
  | a :: r => (∀ b t, r = b :: t → 128 ≤ b → Tks (a :: r) ∨ 128 ≤ a) ∧ Hi r
theorem Hi_drop : ∀ {l : List Nat} (j : Nat), Hi l → Hi (l.drop j)
  | l, 0, h => h
  | [], j + 1, h => h
  | a :: l, j + 1, h => Hi_drop (l := l) j h.2
theorem Hi_suf {p u : List Nat} (h : Hi (p ++ u)) : Hi u := by
  have := Hi_drop p.length h
  simpa using this
theorem lo_first {m R : Nat} {l : List Nat} {v : Nat} {r : List Nat} (hh : Hi (m :: (l ++ [1]))) (hm : m < 4) (hp : Pf (R + 1) (m :: l)) (q : dnum l = some (v, r)) : v < 128 ∧ l = v :: r := by
  cases l with
  | nil => cases q
  | cons a l =>
    by_cases ha : a < 128
    · rw [dnum_lo ha] at q
      cases q
      exact ⟨ha, rfl⟩
    · rcases hh.1 a (l ++ [1]) rfl (by omega) with g | g
      · exact absurd hp (fun hp => aligned g _ R rfl hp)
      · omega
theorem all_lo : ∀ (k R : Nat) (u : List Nat), u.length ≤ k → Hi (u ++ [1]) → Pf R u → ∀ a ∈ u, a < 128
  | k, R, [], _, _, _ => by intro a ha; cases ha
  | 0, R, m :: l, hk, _, _ => by simp at hk
  | k + 1, 0, m :: l, _, _, hp => by cases hp
  | k + 1, R + 1, m :: l, hk, hh, hp => by
    have hkl : l.length ≤ k := by simpa using hk
    clear hk
    have hm := Pf_mark hp
    have hp0 := hp
    intro a ha0
    have ha1 : a = m ∨ a ∈ l := List.mem_cons.mp ha0
    clear ha0
    rcases ha1 with rfl | ha
    · omega
    cases hp with
    | non hp => exact all_lo k R l hkl hh.2 hp a ha
    | num q hp =>
      obtain ⟨h1, rfl⟩ := lo_first hh hm hp0 q
      rcases List.mem_cons.mp ha with rfl | ha
      · exact h1
      · exact all_lo k R _ (by simp at hkl; omega) hh.2.2 hp a ha
    | tup q hp =>
      obtain ⟨h1, rfl⟩ := lo_first hh hm hp0 q
      rcases List.mem_cons.mp ha with rfl | ha
      · exact h1
      · exact all_lo k _ _ (by simp at hkl; omega) hh.2.2 hp a ha
    | @str R l t r q hp =>
      unfold dtxt at q
      cases q2 : dnum l with
      | none => rw [q2] at q; cases q
      | some pr =>
        obtain ⟨n, r2⟩ := pr
        obtain ⟨h1, rfl⟩ := lo_first hh hm hp0 q2
        rw [q2] at q
        dsimp only at q
        split at q
        · cases q
        · rename_i hc
          cases q
          have hal : ∀ a ∈ r2.take n, a < 91 := by
            intro a ha
            have h3 : ((r2.take n).all fun a => decide (a < 91)) = true := by
              by_cases h4 : ((r2.take n).all fun a => decide (a < 91)) = true
              · exact h4
              · exact absurd (.inr h4) hc
            exact of_decide_eq_true (List.all_eq_true.mp h3 a ha)
          rcases List.mem_cons.mp ha with rfl | ha
          · exact h1
          · have hsp : r2 = r2.take n ++ r2.drop n := (List.take_append_drop n r2).symm
            rw [hsp] at ha
            rcases List.mem_append.mp ha with ha | ha
            · have := hal a ha; omega
            · have hh2 : Hi (r2.take n ++ (r2.drop n ++ [1])) := by
                rw [← List.append_assoc, ← hsp]
                exact hh.2.2
              exact all_lo k R (r2.drop n) (by rw [List.length_drop]; simp at hkl; omega) (Hi_suf hh2) hp a ha
end K01
end
section
set_option Elab.async false
set_option linter.all false
set_option maxRecDepth 100000
set_option maxHeartbeats 1000000
/-! k01, plain: the bytes of a drawn thing and what each falls short. -/
namespace K01
open PySem Lt
mutual
def ann : Th → Nat → List (Nat × Nat)
  | .non, d => [(0, 348 * 3 ^ d + 3)]
  | .num v, d => [(1, 0), (v, 348 * 3 ^ d + 5 - v)]
  | .str l, d => (2, 348 * 3 ^ d - 348) :: (l.length, 88 * (4 - l.length)) :: l.map fun s => (s, 90 - s)
  | .tup xs, 0 => [(3, 0), (xs.length, 351)]
  | .tup xs, d + 1 => (3, 0) :: (xs.length, (3 - xs.length) * (1 + 348 * 3 ^ d)) :: anns xs d
def anns : List Th → Nat → List (Nat × Nat)
  | [], _ => []
  | x :: r, d => ann x d ++ anns r d
end
theorem pow_pos3 (d : Nat) : 1 ≤ 3 ^ d := Nat.one_le_pow _ _ (by omega)
theorem byt_app (L M : List (Nat × Nat)) : byt (L ++ M) = byt L ++ byt M := by unfold byt; rw [List.map_append]
theorem dfc_app (L M : List (Nat × Nat)) : dfc (L ++ M) = dfc L + dfc M := by unfold dfc; rw [List.map_append, List.sum_append]
theorem num_all {v : Nat} (h : ∀ a ∈ num v, a < 128) : v < 128 := by
  by_cases hv : v < 128
  · exact hv
  · rw [num_ge hv] at h
    have := h _ List.mem_cons_self
    omega
theorem dep_pos (x : Th) : 1 ≤ x.dep := by cases x <;> (show (1 : Nat) ≤ _; unfold Th.dep; omega)
theorem sgn_sum : ∀ {l : List Nat}, (∀ i ∈ l, i < 91) → dfc (l.map fun s => (s, 90 - s)) + l.sum = 90 * l.length
  | [], _ => rfl
  | a :: l, h => by
    have ih := sgn_sum (l := l) fun i hi => h i (List.mem_cons_of_mem _ hi)
    have ha := h a List.mem_cons_self
    rw [List.map_cons, dfs_cons, List.sum_cons, List.length_cons]
    show 90 - a + _ + _ = _
    omega
theorem sgn_byt (l : List Nat) : byt (l.map fun s => (s, 90 - s)) = l := by
  unfold byt
  rw [List.map_map]
  exact List.map_id' l
mutual
theorem ann_ok : ∀ (x : Th) (d : Nat), x.sm → x.dep ≤ d + 1 → (∀ a ∈ enc x, a < 128) → byt (ann x d) = enc x ∧ dfc (ann x d) + (enc x).sum = 348 * 3 ^ d + 3 * (enc x).length
  | .non, d, _, _, _ => by
    unfold ann enc
    refine ⟨rfl, ?_⟩
    rw [dfs_cons]
    show 348 * 3 ^ d + 3 + 0 + 0 = 348 * 3 ^ d + 3 * 1
    omega
  | .num v, d, _, _, hb => by
    unfold enc at hb
    have hv := num_all fun a ha => hb a (List.mem_cons_of_mem _ ha)
    have hp := pow_pos3 d
    unfold ann enc
    rw [num_lt hv]
    refine ⟨rfl, ?_⟩
    rw [dfs_cons, dfs_cons]
    show 0 + (348 * 3 ^ d + 5 - v + 0) + (1 + (v + 0)) = 348 * 3 ^ d + 3 * 2
    omega
  | .str l, d, h, _, _ => by
    unfold Th.sm at h
    have hp := pow_pos3 d
    have hs := sgn_sum h.2
    unfold ann enc
    rw [num_lt (by omega)]
    refine ⟨?_, ?_⟩
    · show 2 :: l.length :: byt (l.map fun s => (s, 90 - s)) = _
      rw [sgn_byt]
      rfl
    · rw [dfs_cons, dfs_cons]
      show 348 * 3 ^ d - 348 + (88 * (4 - l.length) + dfc (l.map fun s => (s, 90 - s))) + (2 :: l.length :: l).sum = 348 * 3 ^ d + 3 * (2 :: l.length :: l).length
      rw [List.sum_cons, List.sum_cons, List.length_cons, List.length_cons]
      omega
  | .tup xs, 0, h, hd, _ => by
    unfold Th.dep at hd
    have hx : xs = [] := by
      cases xs with
      | nil => rfl
      | cons x r =>
        unfold Th.deps at hd
        have := dep_pos x
        omega
    subst hx
    unfold ann enc encs
    rw [num_lt (by simp)]
    exact ⟨rfl, rfl⟩
  | .tup xs, d + 1, h, hd, hb => by
    unfold Th.dep at hd
    unfold Th.sm at h
    unfold enc at hb
    have h1 := anns_ok xs d h.2 (by omega) fun a ha => hb a (List.mem_cons_of_mem _ (List.mem_append_right _ ha))
    unfold ann enc
    rw [num_lt (by omega)]
    refine ⟨?_, ?_⟩
    · show 3 :: xs.length :: byt (anns xs d) = _
      rw [h1.1]
      rfl
    · rw [dfs_cons, dfs_cons]
      show 0 + ((3 - xs.length) * (1 + 348 * 3 ^ d) + dfc (anns xs d)) + (3 :: xs.length :: encs xs).sum = 348 * 3 ^ (d + 1) + 3 * (3 :: xs.length :: encs xs).length
      rw [List.sum_cons, List.sum_cons, List.length_cons, List.length_cons, Nat.pow_succ]
      have h2 := h1.2
      have h3 := h.1
      generalize 3 ^ d = P at *
      generalize dfc (anns xs d) = D at *
      generalize (encs xs).sum = S at *
      generalize (encs xs).length = N at *
      have : xs.length = 0 ∨ xs.length = 1 ∨ xs.length = 2 ∨ xs.length = 3 := by omega
      rcases this with e | e | e | e <;> rw [e] at h2 ⊢ <;> omega
theorem anns_ok : ∀ (xs : List Th) (d : Nat), Th.sms xs → Th.deps xs ≤ d + 1 → (∀ a ∈ encs xs, a < 128) → byt (anns xs d) = encs xs ∧ dfc (anns xs d) + (encs xs).sum = xs.length * (348 * 3 ^ d) + 3 * (encs xs).length
  | [], d, _, _, _ => by
    unfold anns encs
    refine ⟨rfl, ?_⟩
    show 0 + 0 = 0 * _ + 0
    omega
  | x :: r, d, h, hd, hb => by
    unfold Th.sms at h
    unfold Th.deps at hd
    unfold encs at hb
    have h1 := ann_ok x d h.1 (by omega) fun a ha => hb a (List.mem_append_left _ ha)
    have h2 := anns_ok r d h.2 (by omega) fun a ha => hb a (List.mem_append_right _ ha)
    unfold anns encs
    rw [byt_app, dfc_app, h1.1, h2.1, List.sum_append, List.length_append, List.length_cons, Nat.succ_mul]
    refine ⟨rfl, ?_⟩
    have := h1.2
    have := h2.2
    omega
end
end K01
end
section
set_option Elab.async false
set_option linter.all false
set_option maxRecDepth 100000
set_option maxHeartbeats 1000000
/-! k01, plain: the annotated bytes are good ones. -/
namespace K01
open PySem Lt
theorem Tks_head {b : Nat} {t : List Nat} (h : Tks (b :: t)) : b < 4 := by
  cases h <;> omega
theorem Gd_sgn : ∀ {l : List Nat} {L : List (Nat × Nat)}, Gd L → Gd (l.map (fun s => (s, 90 - s)) ++ L)
  | [], L, h => h
  | a :: l, L, h => by
    refine ⟨?_, Gd_sgn (l := l) h⟩
    by_cases ha : 4 ≤ a
    · exact .inr (.inl ha)
    · refine .inr (.inr (.inl ?_))
      show 87 ≤ 90 - a
      omega
theorem anns_cons (x : Th) (r : List Th) (d : Nat) : anns (x :: r) d = ann x d ++ anns r d := by simp only [anns]
theorem ann_head (x : Th) (d : Nat) : ∃ m dd t, ann x d = (m, dd) :: t ∧ 87 ≤ dd + 87 * m := by
  have hp := pow_pos3 d
  match x, d, hp with
  | .non, d, hp => exact ⟨0, 348 * 3 ^ d + 3, [], by simp only [ann], by omega⟩
  | .num v, d, _ => exact ⟨1, 0, [(v, 348 * 3 ^ d + 5 - v)], by simp only [ann], by omega⟩
  | .str l, d, _ => exact ⟨2, 348 * 3 ^ d - 348, (l.length, 88 * (4 - l.length)) :: l.map fun s => (s, 90 - s), by simp only [ann], by omega⟩
  | .tup xs, 0, _ => exact ⟨3, 0, [(xs.length, 351)], by simp only [ann], by omega⟩
  | .tup xs, d + 1, _ => exact ⟨3, 0, (xs.length, (3 - xs.length) * (1 + 348 * 3 ^ d)) :: anns xs d, by simp only [ann], by omega⟩
mutual
theorem Gd_ann : ∀ (x : Th) (d : Nat) (L : List (Nat × Nat)), x.sm → x.dep ≤ d + 1 → (∀ a ∈ enc x, a < 128) → Gd L → Tks (byt L) → Gd (ann x d ++ L)
  | .non, d, L, _, _, _, hg, ht => by
    unfold ann
    exact ⟨.inl (Tks.non ht), hg⟩
  | .num v, d, L, hs, hd, hb, hg, ht => by
    have hk := Tks_enc (.num v) (byt L) (fit_of _ hs) ht
    have hby := (ann_ok (.num v) d hs hd hb).1
    rw [← hby, ← byt_app] at hk
    unfold ann at hk ⊢
    refine ⟨.inl hk, ?_, hg⟩
    by_cases hv : 4 ≤ v
    · exact .inr (.inl hv)
    · refine .inr (.inr (.inl ?_))
      have := pow_pos3 d
      show 87 ≤ 348 * 3 ^ d + 5 - v
      omega
  | .str l, d, L, hs, hd, hb, hg, ht => by
    have hk := Tks_enc (.str l) (byt L) (fit_of _ hs) ht
    have hby := (ann_ok (.str l) d hs hd hb).1
    rw [← hby, ← byt_app] at hk
    unfold ann at hk ⊢
    refine ⟨.inl hk, ?_, Gd_sgn hg⟩
    by_cases hv : 4 ≤ l.length
    · exact .inr (.inl hv)
    · refine .inr (.inr (.inl ?_))
      show 87 ≤ 88 * (4 - l.length)
      omega
  | .tup xs, 0, L, hs, hd, hb, hg, ht => by
    have hk := Tks_enc (.tup xs) (byt L) (fit_of _ hs) ht
    have hby := (ann_ok (.tup xs) 0 hs hd hb).1
    rw [← hby, ← byt_app] at hk
    unfold ann at hk ⊢
    refine ⟨.inl hk, .inr (.inr (.inl ?_)), hg⟩
    show 87 ≤ 351
    omega
  | .tup xs, d + 1, L, hs, hd, hb, hg, ht => by
    have hk := Tks_enc (.tup xs) (byt L) (fit_of _ hs) ht
    have hby := (ann_ok (.tup xs) (d + 1) hs hd hb).1
    rw [← hby, ← byt_app] at hk
    unfold Th.sm at hs
    unfold Th.dep at hd
    unfold enc at hb
    have ih := Gd_anns xs d L hs.2 (by omega) (fun a ha => hb a (List.mem_cons_of_mem _ (List.mem_append_right _ ha))) hg ht
    unfold ann at hk ⊢
    refine ⟨.inl hk, ?_, ih⟩
    by_cases h3 : xs.length = 3
    · cases xs with
      | nil => cases h3
      | cons x r =>
        obtain ⟨m, dd, t, e, hm⟩ := ann_head x d
        refine .inr (.inr (.inr ⟨h3, m, dd, t ++ (anns r d ++ L), ?_, hm⟩))
        show anns (x :: r) d ++ L = _
        rw [anns_cons, e, List.append_assoc]
        rfl
    · refine .inr (.inr (.inl ?_))
      have := pow_pos3 d
      show 87 ≤ (3 - xs.length) * (1 + 348 * 3 ^ d)
      have h1 : 1 ≤ 3 - xs.length := by have := hs.1; omega
      have h2 : 1 * (1 + 348 * 3 ^ d) ≤ (3 - xs.length) * (1 + 348 * 3 ^ d) := Nat.mul_le_mul_right _ h1
      omega
theorem Gd_anns : ∀ (xs : List Th) (d : Nat) (L : List (Nat × Nat)), Th.sms xs → Th.deps xs ≤ d + 1 → (∀ a ∈ encs xs, a < 128) → Gd L → Tks (byt L) → Gd (anns xs d ++ L)
  | [], d, L, _, _, _, hg, _ => by
    unfold anns
    exact hg
  | x :: r, d, L, hs, hd, hb, hg, ht => by
    unfold Th.sms at hs
    unfold Th.deps at hd
    unfold encs at hb
    have hb2 : ∀ a ∈ encs r, a < 128 := fun a ha => hb a (List.mem_append_right _ ha)
    have h2 := Gd_anns r d L hs.2 (by omega) hb2 hg ht
    have hk : Tks (byt (anns r d ++ L)) := by
      rw [byt_app, (anns_ok r d hs.2 (by omega) hb2).1]
      exact Tks_encs r _ (fits_of r hs.2) ht
    unfold anns
    rw [List.append_assoc]
    exact Gd_ann x d _ hs.1 (by omega) (fun a ha => hb a (List.mem_append_left _ ha)) h2 hk
end
theorem Hi_los : ∀ {l r : List Nat}, (∀ a ∈ l, a < 128) → Hi r → Tks r → Hi (l ++ r)
  | [], r, _, h, _ => h
  | a :: l, r, hl, h, ht => by
    refine ⟨?_, Hi_los (fun b hb => hl b (List.mem_cons_of_mem _ hb)) h ht⟩
    intro b t e hb
    cases l with
    | nil =>
      have e : r = b :: t := e
      rw [e] at ht
      have := Tks_head ht
      omega
    | cons c l =>
      have := (List.cons.inj (show c :: (l ++ r) = b :: t from e)).1
      have := hl c (List.mem_cons_of_mem _ List.mem_cons_self)
      omega
theorem Hi_num : ∀ (m v : Nat) (r : List Nat), v ≤ m → Hi r → (∀ b t, r = b :: t → b < 128) → Hi (num v ++ r)
  | 0, v, r, hm, h, ht => by
    rw [num_lt (by omega)]
    refine ⟨fun b t e hb => ?_, h⟩
    have := ht b t e
    omega
  | m + 1, v, r, hm, h, ht => by
    by_cases hv : v < 128
    · rw [num_lt hv]
      refine ⟨fun b t e hb => ?_, h⟩
      have := ht b t e
      omega
    · rw [num_ge hv]
      exact ⟨fun b t e hb => .inr (by omega), Hi_num m (v / 128) r (by omega) h ht⟩
theorem lo_head {r : List Nat} (ht : Tks r) : ∀ b t, r = b :: t → b < 128 := by
  intro b t e
  rw [e] at ht
  have := Tks_head ht
  omega
mutual
theorem Hi_enc : ∀ (x : Th) (r : List Nat), x.sm → Hi r → Tks r → Hi (enc x ++ r)
  | .non, r, _, h, ht => by
    unfold enc
    exact Hi_los (l := [0]) (by simp) h ht
  | .num v, r, hs, h, ht => by
    have hk := Tks_enc (.num v) r (fit_of _ hs) ht
    unfold enc at hk ⊢
    exact ⟨fun b t e hb => .inl hk, Hi_num v v r (Nat.le_refl _) h (lo_head ht)⟩
  | .str l, r, hs, h, ht => by
    unfold Th.sm at hs
    unfold enc
    rw [num_lt (by omega)]
    refine Hi_los ?_ h ht
    intro a ha
    rcases List.mem_cons.mp ha with rfl | ha
    · omega
    rcases List.mem_cons.mp ha with rfl | ha
    · omega
    · have := hs.2 a ha
      omega
  | .tup xs, r, hs, h, ht => by
    unfold Th.sm at hs
    have ih := Hi_encs xs r hs.2 h ht
    have hk := Tks_encs xs r (fits_of xs hs.2) ht
    unfold enc
    rw [num_lt (by omega)]
    exact Hi_los (l := [3, xs.length]) (by intro a ha; simp at ha; omega) ih hk
theorem Hi_encs : ∀ (xs : List Th) (r : List Nat), Th.sms xs → Hi r → Tks r → Hi (encs xs ++ r)
  | [], r, _, h, _ => by
    unfold encs
    exact h
  | x :: xs, r, hs, h, ht => by
    unfold Th.sms at hs
    unfold encs
    rw [List.append_assoc]
    exact Hi_enc x _ hs.1 (Hi_encs xs r hs.2 h ht) (Tks_encs xs r (fits_of xs hs.2) ht)
end
end K01
end
section
set_option Elab.async false
set_option linter.all false
set_option maxRecDepth 100000
set_option maxHeartbeats 1000000
/-! k01, plain: the shifted row is not read. -/
namespace K01
open PySem Lt
theorem tup3 {a : Th} {d : Nat} (hs : a.sm) (hd : a.dep ≤ d + 3) (hb : ∀ v, a = .num v → v < 128) (h : dfc (ann a (d + 2)) ≤ 658) : ∃ x y z, a = .tup [x, y, z] ∧ dfc (anns [x, y, z] (d + 1)) ≤ 658 := by
  have hp := pow_pos3 d
  have e2 : 3 ^ (d + 2) = 9 * 3 ^ d := by rw [Nat.pow_succ, Nat.pow_succ]; omega
  have e1 : 3 ^ (d + 1) = 3 * 3 ^ d := by rw [Nat.pow_succ]; omega
  match a, hs, hd, hb, h with
  | .non, _, _, _, h =>
    simp only [ann] at h
    rw [dfs_cons, e2] at h
    omega
  | .num v, _, _, hb, h =>
    have := hb v rfl
    simp only [ann] at h
    rw [dfs_cons, dfs_cons, e2] at h
    dsimp only at h
    omega
  | .str l, _, _, _, h =>
    simp only [ann] at h
    rw [dfs_cons, e2] at h
    dsimp only at h
    omega
  | .tup xs, hs, hd, _, h =>
    unfold Th.sm at hs
    simp only [ann] at h
    rw [dfs_cons, dfs_cons, e1] at h
    dsimp only at h
    have h3 : xs.length = 3 := by
      by_cases h3 : xs.length = 3
      · exact h3
      · have h1 : 1 ≤ 3 - xs.length := by have := hs.1; omega
        have h2 : 1 * (1 + 348 * (3 * 3 ^ d)) ≤ (3 - xs.length) * (1 + 348 * (3 * 3 ^ d)) := Nat.mul_le_mul_right _ h1
        omega
    match xs, h3 with
    | [x, y, z], _ => exact ⟨x, y, z, rfl, by omega⟩
theorem stepped {e : Nat × Nat} {L : List (Nat × Nat)} {u : List Nat} {R : Nat} (h : byt (e :: L) = u ++ [1]) (hg : Gd (e :: L)) (hb : ∀ a ∈ byt (e :: L), a < 128) (hp : Pf (R + 1) u) : 87 * R ≤ dfc L := by
  cases u with
  | nil => cases hp
  | cons m l =>
    have h2 := (List.cons.inj (show e.1 :: byt L = m :: (l ++ [1]) from h)).2
    obtain ⟨R2, p, u2, rfl, hR, hp2⟩ := Pf_step hp
    have e1 : byt (L.drop p.length) = u2 ++ [1] := byt_drop (by rw [h2, List.append_assoc])
    have := pot (L.drop p.length).length (L.drop p.length) R2 u2 (Nat.le_refl _) e1 (Gd_drop _ hg.2) (fun a ha => hb a (List.mem_cons_of_mem _ (show a ∈ byt L by
      rw [h2, List.append_assoc]
      rw [e1] at ha
      exact List.mem_append_right _ ha))) hp2
    have := dfs_drop L p.length
    omega
/-- a token that starts at a count of three: what follows -/
theorem cnt3 {m dd d3 R : Nat} {t : List (Nat × Nat)} {u : List Nat} (h : byt ((3, d3) :: (m, dd) :: t) = u ++ [1]) (hm : m < 128) (hp : Pf (R + 1) u) : ∃ l, Pf (R + m) l ∧ byt t = l ++ [1] := by
  cases u with
  | nil => cases hp
  | cons q l =>
    have h1 := List.cons.inj (show (3 : Nat) :: byt ((m, dd) :: t) = q :: (l ++ [1]) from h)
    rw [← h1.1] at hp
    cases l with
    | nil =>
      cases hp with
      | tup q hp => cases q
    | cons a l =>
      have h3 := List.cons.inj (show m :: byt t = a :: (l ++ [1]) from h1.2)
      cases hp with
      | tup q hp =>
        rw [← h3.1, dnum_lo hm] at q
        cases q
        exact ⟨_, hp, h3.2⟩
theorem tail_no {z : Th} {zr : List Th} {T : List (Nat × Nat)} {u : List Nat} {n d3 : Nat} (hz : z.sm) (hdz : z.dep ≤ 1) (hn : (n = 2 ∧ 349 ≤ d3) ∨ n = 3)
    (hL : byt ((n, d3) :: (ann z 0 ++ T)) = u ++ [1]) (hg : Gd ((n, d3) :: (ann z 0 ++ T))) (hb : ∀ a ∈ byt ((n, d3) :: (ann z 0 ++ T)), a < 128) (hp : Pf 7 u) (hd : dfc ((n, d3) :: (ann z 0 ++ T)) ≤ 658) : False := by
  rcases hn with ⟨rfl, hd3⟩ | rfl
  · have := stepped hL hg hb hp
    rw [dfs_cons] at hd
    dsimp only at hd
    omega
  · rw [dfs_cons, dfc_app] at hd
    match z, hz, hdz, hL, hg, hb, hd with
    | .non, _, _, hL, hg, hb, hd =>
      simp only [ann] at hL hg hb hd
      obtain ⟨l, p2, e2⟩ := cnt3 hL (by omega) hp
      have := pot T.length T _ l (Nat.le_refl _) e2 hg.2.2 (fun a ha => hb a (List.mem_cons_of_mem _ (List.mem_cons_of_mem _ ha))) p2
      rw [dfs_cons] at hd
      dsimp only at hd
      omega
    | .num v, _, _, hL, hg, hb, hd =>
      simp only [ann] at hL hg hb hd
      obtain ⟨l, p2, e2⟩ := cnt3 hL (by omega) hp
      have hv : v < 128 := hb v (List.mem_cons_of_mem _ (List.mem_cons_of_mem _ List.mem_cons_self))
      have h5 : 87 * 6 ≤ dfc T := stepped (R := 6) e2 hg.2.2 (fun a ha => hb a (List.mem_cons_of_mem _ (List.mem_cons_of_mem _ ha))) p2
      rw [dfs_cons, dfs_cons] at hd
      dsimp only at hd
      have : dfc ([] : List (Nat × Nat)) = 0 := rfl
      omega
    | .str w, _, _, hL, hg, hb, hd =>
      simp only [ann] at hL hg hb hd
      obtain ⟨l, p2, e2⟩ := cnt3 hL (by omega) hp
      have h5 : 87 * (6 + 2) ≤ dfc (((w.length, 88 * (4 - w.length)) :: w.map fun s => (s, 90 - s)) ++ T) := pot _ _ _ l (Nat.le_refl _) e2 hg.2.2 (fun a ha => hb a (List.mem_cons_of_mem _ (List.mem_cons_of_mem _ ha))) p2
      rw [dfs_cons] at hd
      rw [dfc_app] at h5
      dsimp only at hd
      omega
    | .tup w, _, _, hL, hg, hb, hd =>
      simp only [ann] at hL hg hb hd
      obtain ⟨l, p2, e2⟩ := cnt3 hL (by omega) hp
      have h5 : 87 * (6 + 3) ≤ dfc ([(w.length, 351)] ++ T) := pot _ _ _ l (Nat.le_refl _) e2 hg.2.2 (fun a ha => hb a (List.mem_cons_of_mem _ (List.mem_cons_of_mem _ ha))) p2
      rw [dfs_cons] at hd
      rw [dfc_app] at h5
      dsimp only at hd
      omega
end K01
end
section
set_option Elab.async false
set_option linter.all false
set_option maxRecDepth 100000
set_option maxHeartbeats 1000000
/-! k01, plain: the shifted row is not read (end). -/
namespace K01
open PySem Lt
theorem tup1 {a : Th} (hs : a.sm) (hd : a.dep ≤ 2) (hb : ∀ v, a = .num v → v < 128) (h : dfc (ann a 1) ≤ 658) : ∃ z zr d3, a = .tup (z :: zr) ∧ z.sm ∧ z.dep ≤ 1 ∧ (((z :: zr).length = 2 ∧ 349 ≤ d3) ∨ (z :: zr).length = 3) ∧ ann a 1 = (3, 0) :: ((z :: zr).length, d3) :: (ann z 0 ++ anns zr 0) := by
  match a, hs, hd, hb, h with
  | .non, _, _, _, h =>
    simp only [ann] at h
    rw [dfs_cons] at h
    omega
  | .num v, _, _, hb, h =>
    have := hb v rfl
    simp only [ann] at h
    rw [dfs_cons, dfs_cons] at h
    dsimp only at h
    omega
  | .str l, _, _, _, h =>
    simp only [ann] at h
    rw [dfs_cons] at h
    dsimp only at h
    omega
  | .tup xs, hs, hd, _, h =>
    unfold Th.sm at hs
    unfold Th.dep at hd
    simp only [ann] at h
    rw [dfs_cons, dfs_cons] at h
    dsimp only at h
    match xs, hs, hd, h with
    | [], _, _, h =>
      simp at h
      omega
    | z :: zr, hs, hd, h =>
      have hs2 := hs.2
      unfold Th.sms at hs2
      unfold Th.deps at hd
      refine ⟨z, zr, (3 - (z :: zr).length) * (1 + 348 * 3 ^ 0), rfl, hs2.1, by omega, ?_, by simp only [ann, anns]⟩
      have h3 := hs.1
      generalize (z :: zr).length = n at *
      have : n = 0 ∨ n = 1 ∨ n = 2 ∨ n = 3 := by omega
      rcases this with e | e | e | e <;> subst e <;> omega
theorem hd_dfc {x : Th} {r : List Th} {d : Nat} (h : dfc (anns (x :: r) d) ≤ 658) : dfc (ann x d) ≤ 658 := by
  rw [anns_cons, dfc_app] at h
  omega
theorem shift_no {x x2 : Th} {y : List Nat} (hs : x.sm) (hd : x.dep ≤ 4) (he : enc x = y ++ [1]) (hsum : (enc x).sum = 3 * (enc x).length + 8738) (hdec : dec 40 (3 :: y) = some (x2, [])) : False := by
  have hp : Pf 1 (3 :: y) := dec_Pf 40 _ _ _ 0 hdec .nil
  have hk := Tks_enc x [] (fit_of _ hs) .nil
  have hhi := Hi_enc x [] hs trivial .nil
  rw [List.append_nil] at hk hhi
  have hh3 : Hi ([3] ++ enc x) := Hi_los (by simp) hhi hk
  have hlo := all_lo _ 1 (3 :: y) (Nat.le_refl _) (by rw [he] at hh3; exact hh3) hp
  have hb : ∀ a ∈ enc x, a < 128 := by
    intro a ha
    rw [he] at ha
    rcases List.mem_append.mp ha with ha | ha
    · exact hlo a (List.mem_cons_of_mem _ ha)
    · have : a = 1 := by simpa using ha
      omega
  have ha := ann_ok x 3 hs hd hb
  have h658 : dfc (ann x 3) = 658 := by have := ha.2; omega
  have hg := Gd_ann x 3 [] hs hd hb trivial .nil
  rw [List.append_nil] at hg
  have hby : byt (ann x 3) = y ++ [1] := by rw [ha.1, he]
  have hbb : ∀ a ∈ byt (ann x 3), a < 128 := by rw [ha.1]; exact hb
  obtain ⟨a, b, c, rfl, h1⟩ := tup3 (d := 1) hs hd (fun v e => by
    subst e
    unfold enc at hb
    exact num_all fun a ha => hb a (List.mem_cons_of_mem _ ha)) (by show dfc (ann x 3) ≤ 658; omega)
  have hs1 := hs
  unfold Th.sm Th.sms at hs1
  have hd1 := hd
  unfold Th.dep Th.deps at hd1
  have hba : ∀ q ∈ enc a, q < 128 := fun q hq => hb q (by
    unfold enc encs
    exact List.mem_cons_of_mem _ (List.mem_append_right _ (List.mem_append_left _ hq)))
  obtain ⟨a1, a2, a3, rfl, h2⟩ := tup3 (d := 0) hs1.2.1 (by omega) (fun v e => by
    subst e
    unfold enc at hba
    exact num_all fun a ha => hba a (List.mem_cons_of_mem _ ha)) (hd_dfc h1)
  have hs2 := hs1.2.1
  unfold Th.sm Th.sms at hs2
  have hd2 : a1.dep ≤ 2 := by
    have : (Th.tup [a1, a2, a3]).dep ≤ 3 := by omega
    unfold Th.dep Th.deps at this
    omega
  have hb1 : ∀ q ∈ enc a1, q < 128 := fun q hq => hba q (by
    unfold enc encs
    exact List.mem_cons_of_mem _ (List.mem_append_right _ (List.mem_append_left _ hq)))
  obtain ⟨z, zr, d3, rfl, hz, hdz, hn, e1⟩ := tup1 hs2.2.1 hd2 (fun v e => by
    subst e
    unfold enc at hb1
    exact num_all fun a ha => hb1 a (List.mem_cons_of_mem _ ha)) (hd_dfc h2)
  have eL : ann (.tup [.tup [.tup (z :: zr), a2, a3], b, c]) 3 = (3, 0) :: (3, 0) :: (3, 0) :: (3, 0) :: (3, 0) :: ((z :: zr).length, d3) :: (ann z 0 ++ (anns zr 0 ++ (anns [a2, a3] 1 ++ anns [b, c] 2))) := by
    have q1 : ann (.tup [.tup [.tup (z :: zr), a2, a3], b, c]) 3 = (3, 0) :: (3, 0) :: anns [.tup [.tup (z :: zr), a2, a3], b, c] 2 := by simp [ann]
    have q2 : ann (.tup [.tup (z :: zr), a2, a3]) 2 = (3, 0) :: (3, 0) :: anns [.tup (z :: zr), a2, a3] 1 := by simp [ann]
    rw [q1, anns_cons, q2, anns_cons, e1]
    simp only [List.cons_append, List.append_assoc]
  rw [eL] at hby hg hbb h658
  obtain ⟨l1, p1, e3⟩ := cnt3 (d3 := 0) (R := 0) (u := 3 :: y) (m := 3) (dd := 0) (by
    show 3 :: byt _ = _
    rw [hby]
    rfl) (by omega) hp
  obtain ⟨l2, p2, e4⟩ := cnt3 (R := 2) e3 (by omega) p1
  obtain ⟨l3, p3, e5⟩ := cnt3 (R := 4) e4 (by omega) p2
  rw [dfs_cons, dfs_cons, dfs_cons, dfs_cons, dfs_cons] at h658
  dsimp only at h658
  exact tail_no (zr := zr) hz hdz hn e5 hg.2.2.2.2.2 (fun a ha => hbb a (List.mem_cons_of_mem _ (List.mem_cons_of_mem _ (List.mem_cons_of_mem _ (List.mem_cons_of_mem _ (List.mem_cons_of_mem _ ha)))))) p3 (by omega)
end K01
end
section
set_option Elab.async false
set_option linter.all false
set_option maxRecDepth 100000
set_option maxHeartbeats 1000000
/-! k01, plain: a row that goes on; a part of a row. -/
namespace K01
open PySem Lt
theorem dtxt_ext {l x r : List Nat} (t : List Nat) (h : dtxt l = some (x, r)) : dtxt (l ++ t) = some (x, r ++ t) := by
  unfold dtxt at h ⊢
  cases q : dnum l with
  | none => rw [q] at h; cases h
  | some p =>
    obtain ⟨n, r2⟩ := p
    rw [q] at h
    rw [dnum_ext t q]
    dsimp only at h ⊢
    split at h
    · cases h
    · rename_i hc
      cases h
      have hl : n ≤ r2.length := by
        by_cases hl : n ≤ r2.length
        · exact hl
        · exact absurd (.inl (by rw [List.length_take]; omega)) hc
      have e1 : (r2 ++ t).take n = r2.take n := by rw [List.take_append_of_le_length hl]
      have e2 : (r2 ++ t).drop n = r2.drop n ++ t := by rw [List.drop_append_of_le_length hl]
      rw [e1, e2, if_neg hc]
theorem rep_ext {f : List Nat → Option (Th × List Nat)} (hf : ∀ l x r t, f l = some (x, r) → f (l ++ t) = some (x, r ++ t)) : ∀ (n : Nat) (l : List Nat) (xs : List Th) (r t : List Nat), rep f n l = some (xs, r) → rep f n (l ++ t) = some (xs, r ++ t)
  | 0, l, xs, r, t, h => by cases h; rfl
  | n + 1, l, xs, r, t, h => by
    unfold rep at h
    split at h
    · cases h
    · rename_i x r1 h1
      split at h
      · cases h
      · rename_i xs2 r2 h2
        cases h
        exact rep_some (hf l x r1 t h1) (rep_ext hf n r1 xs2 r t h2)
theorem dec_ext : ∀ (left : Nat) (l : List Nat) (x : Th) (r t : List Nat), dec left l = some (x, r) → dec left (l ++ t) = some (x, r ++ t)
  | 0, l, x, r, t, h => by cases h
  | left + 1, [], x, r, t, h => by cases h
  | left + 1, m :: l, x, r, t, h => by
    rw [List.cons_append]
    match m, h with
    | 0, h =>
      rw [dec_m0] at h ⊢
      cases h
      rfl
    | 1, h =>
      rw [dec_m1] at h ⊢
      cases q : dnum l with
      | none => rw [q] at h; cases h
      | some p => rw [q] at h; rw [dnum_ext t q]; cases h; rfl
    | 2, h =>
      rw [dec_m2] at h ⊢
      cases q : dtxt l with
      | none => rw [q] at h; cases h
      | some p => rw [q] at h; rw [dtxt_ext t q]; cases h; rfl
    | 3, h =>
      cases q : dnum l with
      | none => rw [dec_m3n q] at h; cases h
      | some p =>
        obtain ⟨n, r2⟩ := p
        rw [dec_m3 q] at h
        rw [dec_m3 (dnum_ext t q)]
        cases q2 : rep (dec left) n r2 with
        | none => rw [q2] at h; cases h
        | some p2 =>
          rw [q2] at h
          rw [rep_ext (dec_ext left) n r2 p2.1 p2.2 t q2]
          cases h
          rfl
    | m + 4, h => rw [dec_mx (by omega)] at h; cases h
/-- a proper part of a thing's bytes is no thing -/
theorem dec_part {x y : Th} {j : Nat} (hd : x.dep ≤ 40) (hf : x.fit) (hj : j < (enc x).length) (h : dec 40 ((enc x).take j) = some (y, [])) : False := by
  have h1 := dec_ext 40 _ _ _ ((enc x).drop j) h
  rw [List.take_append_drop] at h1
  have h2 := dec_enc x 40 [] hd hf
  rw [List.append_nil, h1] at h2
  have h3 := (Prod.mk.inj (Option.some.inj h2)).2
  have h4 : ((enc x).drop j).length = 0 := by
    rw [show (enc x).drop j = [] from h3]
    rfl
  rw [List.length_drop] at h4
  omega
theorem Small_take {l : List Nat} {j : Nat} (h : Small l) : Small (l.take j) := by
  intro i v r hd
  have h1 := dnum_ext (((l.drop i).drop (j - i))) hd
  have e : (l.take j).drop i = (l.drop i).take (j - i) := by rw [List.drop_take]
  rw [e, List.take_append_drop] at h1
  exact h i v _ h1
end K01
end
section
set_option Elab.async false
set_option linter.all false
set_option maxRecDepth 100000
set_option maxHeartbeats 1000000
/-! k01, plain: sums of a row with one byte in front and without its last. -/
namespace K01
open PySem Lt
theorem sgo_hi : ∀ (l : List Nat) (lo hi : Nat), (sgo l lo hi).2 = hi + l.length * lo + (sgo l 0 0).2
  | [], lo, hi => by show hi = hi + 0 * lo + 0; omega
  | a :: r, lo, hi => by
    show (sgo r (lo + a) (hi + (lo + a))).2 = hi + (r.length + 1) * lo + (sgo r (0 + a) (0 + (0 + a))).2
    rw [sgo_hi r (lo + a) (hi + (lo + a)), sgo_hi r (0 + a) (0 + (0 + a)), Nat.succ_mul, Nat.mul_add, Nat.mul_add]
    omega
theorem sgo_app : ∀ (l r : List Nat) (lo hi : Nat), sgo (l ++ r) lo hi = sgo r (sgo l lo hi).1 (sgo l lo hi).2
  | [], r, lo, hi => rfl
  | a :: l, r, lo, hi => sgo_app l r (lo + a) (hi + (lo + a))
/-- the high sums of y ++ [z] and of m :: y -/
theorem sgo_shift (y : List Nat) (z m : Nat) : (sgo (y ++ [z]) 1 0).2 + m * (y.length + 1) = (sgo (m :: y) 1 0).2 + (y.sum + z) := by
  rw [sgo_app]
  show (sgo y 1 0).2 + ((sgo y 1 0).1 + z) + m * (y.length + 1) = (sgo y (1 + m) (0 + (1 + m))).2 + (y.sum + z)
  rw [sgo_lo, sgo_hi y 1 0, sgo_hi y (1 + m) (0 + (1 + m)), Nat.mul_add, Nat.mul_add, Nat.mul_comm m y.length]
  omega
end K01
end
section
set_option Elab.async false
set_option linter.all false
set_option maxRecDepth 100000
set_option maxHeartbeats 1000000
/-! k01, plain: the one solution of the check's equation. -/
namespace K01
open PySem Lt
theorem grid : (List.range 512).all (fun g => (List.range 131).all fun e => decide ((g * 2097152 + 3 - e) % 65521 = 0 → g = 0 ∨ (g = 273 ∧ e = 1))) = true := by decide +kernel
theorem grid_of {g e : Nat} (hg : g < 512) (he : e < 131) (h0 : 0 < g) (h : (g * 2097152 + 3 - e) % 65521 = 0) : g = 273 ∧ e = 1 := by
  have h1 := List.all_eq_true.mp grid g (List.mem_range.mpr hg)
  have h2 := of_decide_eq_true (List.all_eq_true.mp h1 e (List.mem_range.mpr he))
  rcases h2 h with h3 | h3
  · omega
  · exact h3
/-- the check's last but one byte has lost its mark: five bytes -/
theorem lost5 {H H2 S m z g1 b low n : Nat} (hm1 : 1 ≤ m) (hm3 : m ≤ 3) (hz : z < 128) (hb : b < 128) (hg : g1 < 128) (hS : z ≤ S) (hS2 : S < 65000) (hn : n ≤ 188)
    (hH : H < 65521) (hH2 : H2 < 65521) (h1 : H * 65521 + (1 + S) = low + g1 * 2097152 + m * 268435456) (h2 : H2 * 65521 + (1 + S - z + m) = low + b * 2097152)
    (hmod : (H + m * n) % 65521 = (H2 + S) % 65521) : z + 2 = m ∧ S = m * n + 8738 := by
  have hgg : 0 < 128 * m + g1 - b := by omega
  have hD : (128 * m + g1 - b) * 2097152 + m = 65521 * (H - H2) + z ∧ H2 ≤ H := by omega
  have hq := grid_of (g := 128 * m + g1 - b) (e := z + 3 - m) (by omega) (by omega) hgg (by
    have : (128 * m + g1 - b) * 2097152 + 3 - (z + 3 - m) = 65521 * (H - H2) := by omega
    rw [this]
    omega)
  have hm : m * n ≤ 3 * 188 := Nat.mul_le_mul hm3 hn
  generalize m * n = q at *
  refine ⟨by omega, ?_⟩
  omega
/-- four bytes -/
theorem lost4 {H H2 S m z g1 b low n : Nat} (hm1 : 1 ≤ m) (hm3 : m ≤ 3) (hz : z < 128) (hb : b < 128) (hg : g1 < 128) (hS : z ≤ S) (hS2 : S < 65000) (hn : n ≤ 188) (hlow : low < 16384)
    (h1 : H * 65521 + (1 + S) = low + g1 * 16384 + m * 2097152) (h2 : H2 * 65521 + (1 + S - z + m) = low + b * 16384)
    (hmod : (H + m * n) % 65521 = (H2 + S) % 65521) : m = 1 ∧ S - z + 15 ≤ n := by
  have hm : m * n ≤ 3 * 188 := Nat.mul_le_mul hm3 hn
  have hD : (128 * m + g1 - b) * 16384 + m = 65521 * (H - H2) + z ∧ H2 ≤ H ∧ 0 < 128 * m + g1 - b := by omega
  have hD2 : H - H2 < 200 := by omega
  have hz2 : z = 15 * (H - H2) + m ∧ 128 * m + g1 - b = 4 * (H - H2) := by omega
  have hm1' : m = 1 := by omega
  have b1 : H2 ≤ 33 := by omega
  have b2 : H ≤ 300 := by omega
  rw [Nat.mod_eq_of_lt (by omega), Nat.mod_eq_of_lt (by omega)] at hmod
  subst hm1'
  omega
end K01
end
section
set_option Elab.async false
set_option linter.all false
set_option maxRecDepth 100000
set_option maxHeartbeats 1000000
/-! k01, plain: the short checks. -/
namespace K01
open PySem Lt
theorem lost3 {H H2 S m z g1 b low n hi : Nat} (hm1 : 1 ≤ m) (hm3 : m ≤ 3) (hz : z < 128) (hb : b < 128) (hg : g1 < 128) (hS : z ≤ S) (hS2 : S < 65000) (hn : n ≤ 188) (hlow : low < 128)
    (h1 : H * 65521 + (1 + S) = low + g1 * 128 + m * 16384) (h2 : H2 * 65521 + (1 + S - z + m) = low + b * 128)
    (hmod : (H + m * n) % 65521 = (H2 + S) % 65521) (hH : H = hi % 65521) (hlo : 1 + S ≤ hi) (hhi : hi ≤ n * (1 + S)) : False := by
  have hm : m * n ≤ 3 * 188 := Nat.mul_le_mul hm3 hn
  have b1 : H2 = 0 := by omega
  have b2 : H ≤ 1 := by omega
  rw [Nat.mod_eq_of_lt (by omega), Nat.mod_eq_of_lt (by omega)] at hmod
  have b3 : H = 1 := by omega
  have b4 : S ≤ 13 := by omega
  have b5 : n * (1 + S) ≤ 188 * 14 := Nat.mul_le_mul hn (by omega)
  rw [Nat.mod_eq_of_lt (by omega)] at hH
  have b6 : S = 0 := by omega
  have b7 : m * n = 0 ∨ 1 ≤ m * n := by omega
  omega
theorem lost2 {H H2 S m z g1 b n hi : Nat} (hm1 : 1 ≤ m) (hm3 : m ≤ 3) (hz : z < 128) (hb : b < 128) (hg : g1 < 128) (hS : z ≤ S) (hn : n ≤ 188)
    (h1 : H * 65521 + (1 + S) = g1 + m * 128) (h2 : H2 * 65521 + (1 + S - z + m) = b)
    (hH : H = hi % 65521) (hlo : 1 + S ≤ hi) (hhi : hi ≤ n * (1 + S)) : False := by
  have b1 : H = 0 := by omega
  have b4 : S ≤ 254 := by omega
  have b5 : n * (1 + S) ≤ 188 * 255 := Nat.mul_le_mul hn (by omega)
  rw [Nat.mod_eq_of_lt (by omega)] at hH
  omega
end K01
end
section
set_option Elab.async false
set_option linter.all false
set_option maxRecDepth 100000
set_option maxHeartbeats 1000000
/-! k01, plain: bounds of the high sum. -/
namespace K01
open PySem Lt
theorem hi_ge : ∀ (l : List Nat) (lo hi : Nat), l ≠ [] → lo + l.sum ≤ (sgo l lo hi).2
  | [], _, _, h => absurd rfl h
  | [a], lo, hi, _ => by
    show lo + (a + 0) ≤ hi + (lo + a)
    omega
  | a :: b :: r, lo, hi, _ => by
    have := hi_ge (b :: r) (lo + a) (hi + (lo + a)) (by simp)
    show lo + (a :: b :: r).sum ≤ (sgo (b :: r) (lo + a) (hi + (lo + a))).2
    rw [List.sum_cons]
    omega
theorem hi_le : ∀ (l : List Nat) (lo hi : Nat), (sgo l lo hi).2 ≤ hi + l.length * (lo + l.sum)
  | [], lo, hi => by show hi ≤ _; omega
  | a :: r, lo, hi => by
    have := hi_le r (lo + a) (hi + (lo + a))
    show (sgo r (lo + a) (hi + (lo + a))).2 ≤ _
    rw [List.sum_cons, List.length_cons, Nat.succ_mul]
    have e : lo + a + r.sum = lo + (a + r.sum) := by omega
    rw [e] at this
    omega
end K01
end
section
set_option Elab.async false
set_option linter.all false
set_option maxRecDepth 100000
set_option maxHeartbeats 1000000
/-! k01, plain: a number's bytes, one of them apart. -/
namespace K01
open PySem Lt
/-- what a front of marked bytes does to a reading -/
def Front (A : List Nat) (i low : Nat) : Prop := A.length = i ∧ low < 128 ^ i ∧ ∀ (l : List Nat) (b : Bool) (f s : Nat), dgo b f s (A ++ l) = dgo (if i = 0 then b else false) (f + low * s) (s * 128 ^ i) l
theorem Front_nil : Front [] 0 0 := ⟨rfl, by omega, fun l b f s => by simp⟩
theorem Front_cons {A : List Nat} {i low a : Nat} (h : Front A i low) (ha : a < 128) : Front ((a + 128) :: A) (i + 1) (a + 128 * low) := by
  obtain ⟨h1, h2, h3⟩ := h
  refine ⟨by rw [List.length_cons, h1], by rw [Nat.pow_succ]; omega, fun l b f s => ?_⟩
  show (if a + 128 < 128 then _ else dgo false (f + (a + 128) % 128 * s) (s * 128) (A ++ l)) = _
  rw [if_neg (by omega), h3]
  have e1 : (a + 128) % 128 = a := by omega
  have e2 : f + a * s + low * (s * 128) = f + (a + 128 * low) * s := by
    rw [Nat.add_mul, ← Nat.add_assoc, Nat.mul_comm 128 low, Nat.mul_assoc, Nat.mul_comm 128 s]
  have e3 : s * 128 * 128 ^ i = s * 128 ^ (i + 1) := by rw [Nat.pow_succ, Nat.mul_assoc, Nat.mul_comm 128]
  rw [e1, e2, e3, if_neg (Nat.succ_ne_zero i)]
  by_cases hi : i = 0
  · rw [if_pos hi]
  · rw [if_neg hi]
theorem num_split : ∀ (i c : Nat), i + 1 < (num c).length → ∃ A low g q, num c = A ++ (g + 128) :: num q ∧ Front A i low ∧ g < 128 ∧ 1 ≤ q ∧ c = low + (g + 128 * q) * 128 ^ i
  | 0, c, h => by
    by_cases hc : c < 128
    · rw [num_lt hc] at h; simp at h
    · exact ⟨[], 0, c % 128, c / 128, num_ge hc, Front_nil, by omega, by omega, by simp; omega⟩
  | i + 1, c, h => by
    by_cases hc : c < 128
    · rw [num_lt hc] at h; simp at h
    · rw [num_ge hc] at h ⊢
      rw [List.length_cons] at h
      obtain ⟨A, low, g, q, h1, h2, h3, h4, h5⟩ := num_split i (c / 128) (by omega)
      refine ⟨(c % 128 + 128) :: A, c % 128 + 128 * low, g, q, by rw [h1]; rfl, Front_cons h2 (by omega), h3, h4, ?_⟩
      have h6 : c = c % 128 + 128 * (c / 128) := by omega
      rw [Nat.pow_succ, ← Nat.mul_assoc]
      generalize (g + 128 * q) * 128 ^ i = P at *
      omega
theorem num_last : ∀ (i c : Nat), i + 1 = (num c).length → ∃ A low q, num c = A ++ [q] ∧ Front A i low ∧ q < 128 ∧ (i ≠ 0 → 1 ≤ q) ∧ c = low + q * 128 ^ i
  | 0, c, h => by
    by_cases hc : c < 128
    · exact ⟨[], 0, c, num_lt hc, Front_nil, hc, fun h => absurd rfl h, by simp⟩
    · rw [num_ge hc, List.length_cons] at h
      have := List.length_pos_iff.mpr (num_ne (c / 128))
      omega
  | i + 1, c, h => by
    by_cases hc : c < 128
    · rw [num_lt hc] at h; simp at h
    · rw [num_ge hc] at h ⊢
      rw [List.length_cons] at h
      obtain ⟨A, low, q, h1, h2, h3, h4, h5⟩ := num_last i (c / 128) (by omega)
      refine ⟨(c % 128 + 128) :: A, c % 128 + 128 * low, q, by rw [h1]; rfl, Front_cons h2 (by omega), h3, fun _ => ?_, ?_⟩
      · by_cases hi : i = 0
        · subst hi
          have : low = 0 := by have := h2.2.1; omega
          subst this
          simp at h5
          omega
        · exact h4 hi
      · have h6 : c = c % 128 + 128 * (c / 128) := by omega
        rw [Nat.pow_succ, ← Nat.mul_assoc]
        generalize q * 128 ^ i = P at *
        omega
end K01
end
section
set_option Elab.async false
set_option linter.all false
set_option maxRecDepth 100000
set_option maxHeartbeats 1000000
/-! k01, plain: the check's bytes changed. -/
namespace K01
open PySem Lt
theorem numI_two (n : Nat) : ∀ k, n ≤ k → (numI n).2 < 128 := by
  intro k
  induction k generalizing n with
  | zero => intro h; rw [numI_lt (by omega)]; show n < 128; omega
  | succ k ih =>
    intro h
    by_cases hn : n < 128
    · rw [numI_lt hn]; exact hn
    · rw [numI_ge hn]
      exact ih (n / 128) (by omega)
theorem num_end (n : Nat) : ∃ y z, num n = y ++ [z] ∧ z < 128 := ⟨_, _, rfl, numI_two n n (Nat.le_refl _)⟩
theorem num_255 : ∀ (m n : Nat), n ≤ m → ∀ a ∈ num n, a < 256
  | 0, n, h => by rw [num_lt (by omega)]; intro a ha; have : a = n := by simpa using ha
                  omega
  | m + 1, n, h => by
    by_cases hn : n < 128
    · rw [num_lt hn]; intro a ha; have : a = n := by simpa using ha
      omega
    · rw [num_ge hn]
      intro a ha
      rcases List.mem_cons.mp ha with rfl | ha
      · omega
      · exact num_255 m (n / 128) (by omega) a ha
mutual
theorem enc_255 : ∀ (x : Th), x.sm → ∀ a ∈ enc x, a < 256
  | .non, _ => by unfold enc; intro a ha; have : a = 0 := by simpa using ha
                  omega
  | .num n, _ => by
    unfold enc
    intro a ha
    rcases List.mem_cons.mp ha with rfl | ha
    · omega
    · exact num_255 n n (Nat.le_refl _) a ha
  | .str l, h => by
    unfold Th.sm at h
    unfold enc
    intro a ha
    rcases List.mem_cons.mp ha with rfl | ha
    · omega
    · rcases List.mem_append.mp ha with ha | ha
      · exact num_255 _ _ (Nat.le_refl _) a ha
      · have := h.2 a ha; omega
  | .tup xs, h => by
    unfold Th.sm at h
    unfold enc
    intro a ha
    rcases List.mem_cons.mp ha with rfl | ha
    · omega
    · rcases List.mem_append.mp ha with ha | ha
      · exact num_255 _ _ (Nat.le_refl _) a ha
      · exact encs_255 xs h.2 a ha
theorem encs_255 : ∀ (xs : List Th), Th.sms xs → ∀ a ∈ encs xs, a < 256
  | [], _ => by unfold encs; intro a ha; cases ha
  | x :: r, h => by
    unfold Th.sms at h
    unfold encs
    intro a ha
    rcases List.mem_append.mp ha with ha | ha
    · exact enc_255 x h.1 a ha
    · exact encs_255 r h.2 a ha
end
mutual
theorem enc_end : ∀ (x : Th), x.sm → ∃ y z, enc x = y ++ [z] ∧ z < 128
  | .non, _ => ⟨[], 0, by unfold enc; rfl, by omega⟩
  | .num n, _ => by
    obtain ⟨y, z, h1, h2⟩ := num_end n
    exact ⟨1 :: y, z, by unfold enc; rw [h1]; rfl, h2⟩
  | .str l, h => by
    unfold Th.sm at h
    cases hl : l.reverse with
    | nil =>
      have : l = [] := by simpa using hl
      subst this
      exact ⟨[2], 0, by unfold enc; rw [num_lt (by simp)]; rfl, by omega⟩
    | cons a s =>
      have e : l = s.reverse ++ [a] := by
        have := congrArg List.reverse hl
        simpa using this
      have ha := h.2 a (by rw [e]; simp)
      refine ⟨2 :: (num l.length ++ s.reverse), a, ?_, by omega⟩
      unfold enc
      conv => lhs; rw [e]
      rw [e]
      simp
  | .tup xs, h => by
    unfold Th.sm at h
    cases xs with
    | nil => exact ⟨[3], 0, by unfold enc encs; rw [num_lt (by simp)]; rfl, by omega⟩
    | cons x r =>
      obtain ⟨y, z, h1, h2⟩ := encs_end (x :: r) h.2 (by simp)
      exact ⟨3 :: (num (x :: r).length ++ y), z, by unfold enc; rw [h1, List.cons_append, List.append_assoc], h2⟩
theorem encs_end : ∀ (xs : List Th), Th.sms xs → xs ≠ [] → ∃ y z, encs xs = y ++ [z] ∧ z < 128
  | [], _, h => absurd rfl h
  | x :: r, h, _ => by
    unfold Th.sms at h
    cases r with
    | nil =>
      obtain ⟨y, z, h1, h2⟩ := enc_end x h.1
      exact ⟨y, z, by unfold encs encs; rw [h1, List.append_nil], h2⟩
    | cons a s =>
      obtain ⟨y, z, h1, h2⟩ := encs_end (a :: s) h.2 (by simp)
      exact ⟨enc x ++ y, z, by rw [encs, h1, List.append_assoc], h2⟩
end
theorem sum_le {l : List Nat} (h : ∀ a ∈ l, a < 256) : l.sum ≤ 255 * l.length := by
  induction l with
  | nil => simp
  | cons a l ih =>
    have := ih fun b hb => h b (List.mem_cons_of_mem _ hb)
    have := h a List.mem_cons_self
    rw [List.sum_cons, List.length_cons]
    omega
/-- the check of a short row, in parts -/
theorem csum_parts {l : List Nat} (h : l.sum < 65000) : csum l = (sgo l 1 0).2 % 65521 * 65521 + (1 + l.sum) := by
  rw [csum_sgo, sgo_lo, Nat.mod_eq_of_lt (a := 1 + l.sum) (by omega)]
theorem csum_32 (l : List Nat) : csum l < 2 ^ 32 := Nat.lt_trans (csum_lt l) (by decide)
end K01
end
section
set_option Elab.async false
set_option linter.all false
set_option maxRecDepth 100000
set_option maxHeartbeats 1000000
/-! k01, plain: one byte of a sealed row is another one. -/
namespace K01
open PySem Lt
def Bad (l : List Nat) : Prop := Small l ∧ ∀ y, dec 40 l ≠ some (y, [])
theorem sum_set : ∀ {l : List Nat} {j a : Nat} (b : Nat), l[j]? = some a → (l.set j b).sum + a = l.sum + b
  | [], _, _, _, h => by simp at h
  | x :: l, 0, a, b, h => by
    have : x = a := by simpa using h
    subst this
    rw [List.set_cons_zero, List.sum_cons, List.sum_cons]
    omega
  | x :: l, j + 1, a, b, h => by
    have := sum_set (l := l) (j := j) (a := a) b (by simpa using h)
    rw [List.set_cons_succ, List.sum_cons, List.sum_cons]
    omega
theorem body_sum {l : List Nat} (hn : l.length ≤ 188) (h : ∀ a ∈ l, a < 256) : l.sum < 48000 := by
  have := sum_le h
  omega
theorem csum_sum {l r : List Nat} (h1 : l.sum < 65000) (h2 : r.sum < 65000) (h : csum l = csum r) : l.sum = r.sum := by
  rw [csum_parts h1, csum_parts h2] at h
  have a1 := Nat.mod_lt (sgo l 1 0).2 (y := 65521) (by omega)
  have a2 := Nat.mod_lt (sgo r 1 0).2 (y := 65521) (by omega)
  omega
theorem bent_body {l : List Nat} {j a b : Nat} (hn : l.length ≤ 188) (h : ∀ x ∈ l, x < 256) (hj : l[j]? = some a) (hb : b < 256) (hne : a ≠ b) : csum (l.set j b) ≠ csum l := by
  intro hc
  have s1 := body_sum hn h
  have s2 : (l.set j b).sum < 48000 := body_sum (by rw [List.length_set]; exact hn) (by
    intro x hx
    rcases List.mem_or_eq_of_mem_set hx with hx | rfl
    · exact h x hx
    · exact hb)
  have e := csum_sum (by omega) (by omega) hc
  have := sum_set b hj
  omega
/-- numbers that go on into what follows -/
theorem dgo_into {b : Bool} {f s v : Nat} {l r : List Nat} (h : dgo b f s l = some (v, r)) : r.length < l.length := dgo_len h
theorem csum_pos {l : List Nat} (h : l.sum < 65000) : 1 ≤ csum l := by
  rw [csum_parts h]
  omega
theorem dec_ge {left : Nat} {l : List Nat} (h : ∀ a r, l = a :: r → 4 ≤ a) : dec left l = none := by
  cases left with
  | zero => rfl
  | succ left =>
    cases l with
    | nil => rfl
    | cons a r => exact dec_mx (h a r rfl)
theorem take_row {n q z : Nat} {y : List Nat} (hn : n = y.length + 1) : (q :: (y ++ [z])).take n = q :: y := by
  subst hn
  rw [List.take_succ_cons, List.take_append_of_le_length (Nat.le_refl _), List.take_length]
/-- a single number that takes all of the row -/
theorem dnum_all {y : List Nat} {v : Nat} (h : dnum y = some (v, [])) : 128 * (y.length - 1) ≤ y.sum := by
  have key : ∀ (y : List Nat) (b : Bool) (f s v : Nat), dgo b f s y = some (v, []) → 128 * (y.length - 1) ≤ y.sum := by
    intro y
    induction y with
    | nil => intro b f s v h; cases h
    | cons a y ih =>
      intro b f s v h
      unfold dgo at h
      split at h
      · split at h
        · cases h
        · cases h
          simp
      · have := ih _ _ _ _ h
        rw [List.length_cons, List.sum_cons]
        omega
  exact key y _ _ _ _ h
theorem enc_hd : ∀ x : Th, ∃ m r, enc x = m :: r ∧ m ≤ 3
  | .non => ⟨0, [], by unfold enc; rfl, by omega⟩
  | .num n => ⟨1, num n, by unfold enc; rfl, by omega⟩
  | .str l => ⟨2, num l.length ++ l, by unfold enc; rfl, by omega⟩
  | .tup xs => ⟨3, num xs.length ++ encs xs, by unfold enc; rfl, by omega⟩
theorem dtxt_short {m : Nat} {r t : List Nat} (hm : m ≤ 3) (h : dtxt (m :: r) = some (t, [])) : r.length ≤ 3 := by
  unfold dtxt at h
  rw [← List.singleton_append, show ([m] : List Nat) = num m from (num_lt (by omega)).symm, dnum_num] at h
  dsimp only at h
  split at h
  · cases h
  · have h1 := (Prod.mk.inj (Option.some.inj h)).2
    have h2 := congrArg List.length h1
    rw [List.length_drop] at h2
    have h3 : ([] : List Nat).length = 0 := rfl
    omega
theorem part_eq {X S low g q p : Nat} (h : X + (1 + S) = low + (g + 128 * q) * p) : X + (1 + S) = low + g * p + q * (128 * p) := by
  rw [h, Nat.add_mul, Nat.add_assoc, Nat.mul_comm 128 q, Nat.mul_assoc]
/-- the check lost a mark -/
theorem lost_mark {x : Th} (hs : x.sm) (hd : x.dep ≤ 4) {i low g q b : Nat} {A : List Nat} (hi : i ≤ 3) (hA : num (csum (enc x)) = A ++ (g + 128) :: num q) (hF : Front A i low) (hg : g < 128) (hq : 1 ≤ q)
    (hc : csum (enc x) = low + (g + 128 * q) * 128 ^ i) (hb : b < 128) (hck : csum ((num q ++ enc x).take (enc x).length) = low + b * 128 ^ i) : Bad ((num q ++ enc x).take (enc x).length) := by
  have hn := enc_188 hs hd
  have h255 := enc_255 x hs
  have hsum := body_sum hn h255
  have hc32 := csum_32 (enc x)
  have hsm : Small ((num q ++ enc x).take (enc x).length) := by
    apply Small_take
    apply Small_of
    have h0 := Sh_enc x [] hs trivial
    rw [List.append_nil] at h0
    refine Sh_num 4 q _ (by omega) ?_ h0
    have h1 : 1 ≤ 128 ^ i := Nat.one_le_pow _ _ (by omega)
    have h2 : (g + 128 * q) * 1 ≤ (g + 128 * q) * 128 ^ i := Nat.mul_le_mul_left _ h1
    omega
  refine ⟨hsm, ?_⟩
  obtain ⟨y0, z, hy, hz⟩ := enc_end x hs
  have hlen : (enc x).length = y0.length + 1 := by rw [hy]; simp
  by_cases hq4 : 4 ≤ q
  · intro y
    rw [dec_ge]
    · exact fun h => nomatch h
    · intro a r e
      by_cases h128 : q < 128
      · rw [num_lt h128, hlen] at e
        rw [List.singleton_append, List.take_succ_cons] at e
        have := (List.cons.inj e).1
        omega
      · rw [num_ge h128, hlen, List.cons_append, List.take_succ_cons] at e
        have := (List.cons.inj e).1
        omega
  · have e1 : (num q ++ enc x).take (enc x).length = q :: y0 := by
      rw [num_lt (by omega), hy, List.singleton_append]
      exact take_row (by simp)
    rw [e1] at hck ⊢
    have hS : (enc x).sum = y0.sum + z := by rw [hy, List.sum_append]; simp
    have hpl : csum (enc x) = (sgo (enc x) 1 0).2 % 65521 * 65521 + (1 + (enc x).sum) := csum_parts (by omega)
    have hpl2 : csum (q :: y0) = (sgo (q :: y0) 1 0).2 % 65521 * 65521 + (1 + (enc x).sum - z + q) := by
      rw [csum_parts (by rw [List.sum_cons]; omega), List.sum_cons, hS]
      omega
    have hsh := sgo_shift y0 z q
    rw [← hy, ← hlen, ← hS] at hsh
    have hge := hi_ge (enc x) 1 0 (by rw [hy]; simp)
    have hle := hi_le (enc x) 1 0
    rw [Nat.zero_add] at hle
    generalize hHI : (sgo (enc x) 1 0).2 = HI at *
    generalize hHI2 : (sgo (q :: y0) 1 0).2 = HI2 at *
    have hmod : (HI % 65521 + q * (enc x).length) % 65521 = (HI2 % 65521 + (enc x).sum) % 65521 := by
      rw [Nat.mod_add_mod, Nat.mod_add_mod, hsh]
    have hlow := hF.2.1
    have hH : HI % 65521 < 65521 := Nat.mod_lt _ (by omega)
    have hH2 : HI2 % 65521 < 65521 := Nat.mod_lt _ (by omega)
    rw [hpl] at hc
    rw [hpl2] at hck
    have i4 : i = 0 ∨ i = 1 ∨ i = 2 ∨ i = 3 := by omega
    rcases i4 with rfl | rfl | rfl | rfl
    · rw [show (128 : Nat) ^ 0 = 1 from rfl] at hc hck hlow
      have c1 : HI % 65521 * 65521 + (1 + (enc x).sum) = low + g * 1 + q * 128 := part_eq hc
      have c2 : HI2 % 65521 * 65521 + (1 + (enc x).sum - z + q) = low + b * 1 := hck
      have hl0 : low = 0 := by clear c1 c2 hc hck hpl hpl2 hmod hsh hle hge; omega
      exact (lost2 (H := HI % 65521) (H2 := HI2 % 65521) (S := (enc x).sum) (m := q) (z := z) (g1 := g) (b := b) (n := (enc x).length) (hi := HI) hq (by omega) hz hb hg (by omega) hn (by rw [c1, hl0]; omega) (by rw [c2, hl0]; omega) rfl hge hle).elim
    · rw [show (128 : Nat) ^ 1 = 128 from rfl] at hc hck hlow
      have c1 : HI % 65521 * 65521 + (1 + (enc x).sum) = low + g * 128 + q * 16384 := part_eq hc
      have c2 : HI2 % 65521 * 65521 + (1 + (enc x).sum - z + q) = low + b * 128 := hck
      exact (lost3 (H := HI % 65521) (H2 := HI2 % 65521) (S := (enc x).sum) (m := q) (z := z) (g1 := g) (b := b) (low := low) (n := (enc x).length) (hi := HI) hq (by omega) hz hb hg (by omega) (by omega) hn (by omega) c1 c2 hmod rfl hge hle).elim
    · rw [show (128 : Nat) ^ 2 = 16384 from rfl] at hc hck hlow
      have c1 : HI % 65521 * 65521 + (1 + (enc x).sum) = low + g * 16384 + q * 2097152 := part_eq hc
      have c2 : HI2 % 65521 * 65521 + (1 + (enc x).sum - z + q) = low + b * 16384 := hck
      obtain ⟨h1, h2⟩ := lost4 (H := HI % 65521) (H2 := HI2 % 65521) (S := (enc x).sum) (m := q) (z := z) (g1 := g) (b := b) (low := low) (n := (enc x).length) hq (by omega) hz hb hg (by omega) (by omega) hn (by omega) c1 c2 hmod
      subst h1
      intro y hdec
      rw [dec_m1] at hdec
      cases hv : dnum y0 with
      | none => rw [hv] at hdec; cases hdec
      | some p =>
        obtain ⟨v, r⟩ := p
        rw [hv] at hdec
        have hr : r = [] := (Prod.mk.inj (Option.some.inj hdec)).2
        subst hr
        have := dnum_all hv
        omega
    · rw [show (128 : Nat) ^ 3 = 2097152 from rfl] at hc hck hlow
      have c1 : HI % 65521 * 65521 + (1 + (enc x).sum) = low + g * 2097152 + q * 268435456 := part_eq hc
      have c2 : HI2 % 65521 * 65521 + (1 + (enc x).sum - z + q) = low + b * 2097152 := hck
      obtain ⟨h1, h2⟩ := lost5 (H := HI % 65521) (H2 := HI2 % 65521) (S := (enc x).sum) (m := q) (z := z) (g1 := g) (b := b) (low := low) (n := (enc x).length) hq (by omega) hz hb hg (by omega) (by omega) hn hH hH2 c1 c2 hmod
      intro y hdec
      have hq23 : q = 2 ∨ q = 3 := by omega
      rcases hq23 with rfl | rfl
      · rw [dec_m2] at hdec
        cases hv : dtxt y0 with
        | none => rw [hv] at hdec; cases hdec
        | some p =>
          obtain ⟨v, r⟩ := p
          rw [hv] at hdec
          have hr : r = [] := (Prod.mk.inj (Option.some.inj hdec)).2
          subst hr
          obtain ⟨m, r0, e, hm⟩ := enc_hd x
          have h48 := sum_le h255
          cases y0 with
          | nil => rw [hlen] at h48; simp at h48; omega
          | cons a y0 =>
            rw [e] at hy
            have ha := (List.cons.inj (show m :: r0 = a :: (y0 ++ [z]) from hy)).1
            subst ha
            have := dtxt_short hm hv
            rw [hlen] at h48
            simp at h48
            omega
      · have hz1 : z = 1 := by omega
        subst hz1
        exact shift_no hs hd hy h2 hdec
end K01
end
section
set_option Elab.async false
set_option linter.all false
set_option maxRecDepth 100000
set_option maxHeartbeats 1000000
/-! k01, plain: one byte of a sealed row is another one (all places). -/
namespace K01
open PySem Lt
theorem dgo_low {a f s v : Nat} {b : Bool} {r r2 : List Nat} (ha : a < 128) (h : dgo b f s (a :: r) = some (v, r2)) : v = f + a * s ∧ r2 = r := by
  unfold dgo at h
  rw [if_pos ha, Nat.mod_eq_of_lt ha] at h
  split at h
  · cases h
  · cases h
    exact ⟨rfl, rfl⟩
theorem dgo_hi {a f s : Nat} {b : Bool} {r : List Nat} (ha : ¬ a < 128) : dgo b f s (a :: r) = dgo false (f + a % 128 * s) (s * 128) r := by
  conv => lhs; unfold dgo
  rw [if_neg ha]
/-- what is read of the bent row's rest -/
theorem read_check {x : Th} (hs : x.sm) (hd : x.dep ≤ 4) {i a b : Nat} (hi : (num (csum (enc x)))[i]? = some a) (hb : b < 256) (hne : a ≠ b) {check : Nat} {r2 : List Nat}
    (h : dnum ((num (csum (enc x))).set i b ++ enc x) = some (check, r2)) (hsh : ¬ (r2.take (enc x).length).length < (enc x).length) (hck : csum (r2.take (enc x).length) = check) : Bad (r2.take (enc x).length) := by
  have hil : i < (num (csum (enc x))).length := (List.getElem?_eq_some_iff.mp hi).1
  have hn := enc_188 hs hd
  have h255 := enc_255 x hs
  have hsum := body_sum hn h255
  have hc32 := csum_32 (enc x)
  have hk : (num (csum (enc x))).length ≤ 5 := by
    have := numI_len 4 (csum (enc x)) (by omega)
    unfold num
    simp
    omega
  have htl : (enc x).take (enc x).length = enc x := List.take_length
  by_cases hlast : i + 1 = (num (csum (enc x))).length
  · obtain ⟨A, low, q, hA, hF, hq, hq1, hc⟩ := num_last i (csum (enc x)) hlast
    have hAl : A.length = i := hF.1
    have e1 : (num (csum (enc x))).set i b = A ++ [b] := by
      rw [hA, List.set_append_right _ _ (by omega), hAl, Nat.sub_self]
      rfl
    have ea : a = q := by
      rw [hA, List.getElem?_append_right (by omega), hAl, Nat.sub_self] at hi
      simpa using hi.symm
    subst ea
    unfold dnum at h
    rw [e1, List.append_assoc, hF.2.2] at h
    rw [List.singleton_append] at h
    by_cases hb1 : b < 128
    · obtain ⟨h5, h6⟩ := dgo_low hb1 h
      subst h6
      rw [htl] at hck
      have hp : 0 < 128 ^ i := Nat.pow_pos (by omega)
      have e3 : 0 + low * 1 + b * (1 * 128 ^ i) = low + b * 128 ^ i := by rw [Nat.one_mul]; omega
      rw [h5, e3, hc] at hck
      have e4 : a * 128 ^ i = b * 128 ^ i := by omega
      exact absurd (Nat.eq_of_mul_eq_mul_right hp e4) hne
    · rw [dgo_hi hb1] at h
      have := dgo_len h
      exfalso
      apply hsh
      rw [List.length_take]
      omega
  · obtain ⟨A, low, g, q, hA, hF, hg, hq, hc⟩ := num_split i (csum (enc x)) (by omega)
    have hAl : A.length = i := hF.1
    have e1 : (num (csum (enc x))).set i b = A ++ b :: num q := by
      rw [hA, List.set_append_right _ _ (by omega), hAl, Nat.sub_self]
      rfl
    have ea : a = g + 128 := by
      rw [hA, List.getElem?_append_right (by omega), hAl, Nat.sub_self] at hi
      simpa using hi.symm
    have hi3 : i ≤ 3 := by omega
    have h0 := h
    unfold dnum at h
    rw [e1, List.append_assoc, hF.2.2, List.cons_append] at h
    by_cases hb1 : b < 128
    · obtain ⟨h5, h6⟩ := dgo_low hb1 h
      subst h6
      have e3 : 0 + low * 1 + b * (1 * 128 ^ i) = low + b * 128 ^ i := by rw [Nat.one_mul]; omega
      rw [h5, e3] at hck
      exact lost_mark hs hd hi3 hA hF hg hq hc hb1 hck
    · rw [dgo_hi hb1] at h
      rw [dgo_num q q false _ _ _ (Nat.le_refl _) (fun _ => by omega)] at h
      cases h
      rw [htl] at hck
      exfalso
      have hp : 0 < 128 ^ i := Nat.pow_pos (by omega)
      have e3 : 0 + low * 1 + b % 128 * (1 * 128 ^ i) + q * (1 * 128 ^ i * 128) = low + (b % 128 + 128 * q) * 128 ^ i := by
        rw [Nat.one_mul, Nat.add_mul, Nat.mul_comm 128 q, Nat.mul_assoc q, Nat.mul_comm 128 (128 ^ i)]
        omega
      rw [e3, hc] at hck
      have e4 : (g + 128 * q) * 128 ^ i = (b % 128 + 128 * q) * 128 ^ i := by omega
      have e5 := Nat.eq_of_mul_eq_mul_right hp e4
      omega
/-- the row's rest whole, another size -/
theorem whole_rest {x : Th} (hs : x.sm) (hd : x.dep ≤ 4) {size : Nat} (hne : size ≠ (enc x).length) (hsh : ¬ ((enc x).take size).length < size) : Bad ((enc x).take size) := by
  have hl : size < (enc x).length := by
    rw [List.length_take] at hsh
    omega
  exact ⟨Small_take (Small_enc hs), fun y hy => dec_part (by omega) (fit_of x hs) hl hy⟩
/-- the row -/
theorem bent_row {x : Th} (hs : x.sm) (hd : x.dep ≤ 4) {j a b : Nat} (hj : (sld x)[j]? = some a) (hb : b < 256) (hne : a ≠ b) {size check : Nat} {r r2 : List Nat}
    (h1 : dnum ((sld x).set j b) = some (size, r)) (h2 : dnum r = some (check, r2)) (h0 : size ≠ 0) (hsh : ¬ (r2.take size).length < size) (hck : csum (r2.take size) = check) : Bad (r2.take size) := by
  have hn := enc_188 hs hd
  have hn1 := enc_pos x
  have h255 := enc_255 x hs
  have hsum := body_sum hn h255
  have hc1 := csum_pos (l := enc x) (by omega)
  have htl : (enc x).take (enc x).length = enc x := List.take_length
  have esld : sld x = num (enc x).length ++ (num (csum (enc x)) ++ enc x) := by unfold sld; rw [List.append_assoc]
  rw [esld] at hj h1
  by_cases j1 : j < (num (enc x).length).length
  · rw [List.getElem?_append_left j1] at hj
    rw [List.set_append_left _ _ j1] at h1
    by_cases n128 : (enc x).length < 128
    · rw [num_lt n128] at j1 hj h1
      have : j = 0 := by simpa using j1
      subst this
      have ha : (enc x).length = a := by simpa using hj
      have h1 : dnum (b :: (num (csum (enc x)) ++ enc x)) = some (size, r) := h1
      unfold dnum dgo at h1
      split at h1
      · rename_i hb1
        split at h1
        · cases h1
        · cases h1
          rw [dnum_num] at h2
          cases h2
          exact whole_rest hs hd (by omega) hsh
      · rename_i hb1
        rw [dgo_num _ _ false _ _ _ (Nat.le_refl _) (fun _ => by omega)] at h1
        cases h1
        have h3 := dnum_len h2
        exfalso
        apply hsh
        rw [List.length_take]
        omega
    · have e : num (enc x).length = [(enc x).length % 128 + 128, 1] := by
        rw [num_ge n128, show (enc x).length / 128 = 1 by omega, num_lt (by omega)]
      rw [e] at j1 hj h1
      have j01 : j = 0 ∨ j = 1 := by simp at j1; omega
      rcases j01 with rfl | rfl
      · have ha : (enc x).length % 128 + 128 = a := by simpa using hj
        have h1 : dnum (b :: 1 :: (num (csum (enc x)) ++ enc x)) = some (size, r) := h1
        unfold dnum dgo at h1
        split at h1
        · rename_i hb1
          split at h1
          · cases h1
          · cases h1
            rw [← List.singleton_append, show ([1] : List Nat) = num 1 from (num_lt (by omega)).symm, dnum_num] at h2
            cases h2
            exfalso
            have hb2 : b % 128 < 128 := Nat.mod_lt _ (by omega)
            have h4 : ((num (csum (enc x)) ++ enc x).take (0 + b % 128 * 1)).sum ≤ 255 * ((num (csum (enc x)) ++ enc x).take (0 + b % 128 * 1)).length := sum_le (by
              intro z hz
              rcases List.mem_append.mp (List.mem_of_mem_take hz) with hz | hz
              · exact num_255 _ _ (Nat.le_refl _) z hz
              · exact h255 z hz)
            have h5 : ((num (csum (enc x)) ++ enc x).take (0 + b % 128 * 1)).length ≤ 0 + b % 128 * 1 := List.length_take_le _ _
            rw [csum_parts (by omega)] at hck
            have h6 : ((num (csum (enc x)) ++ enc x).take (0 + b % 128 * 1)).sum = 0 := by omega
            obtain ⟨m, hm⟩ : ∃ m, 0 + b % 128 * 1 = m + 1 := ⟨0 + b % 128 * 1 - 1, by omega⟩
            rw [hm] at h6
            by_cases c128 : csum (enc x) < 128
            · rw [num_lt c128, List.cons_append, List.take_succ_cons, List.sum_cons] at h6
              omega
            · rw [num_ge c128, List.cons_append, List.take_succ_cons, List.sum_cons] at h6
              omega
        · rename_i hb1
          unfold dgo at h1
          rw [if_pos (by omega), if_neg (by omega)] at h1
          cases h1
          rw [dnum_num] at h2
          cases h2
          exact whole_rest hs hd (by omega) hsh
      · have ha : 1 = a := by simpa using hj
        have h1 : dnum (((enc x).length % 128 + 128) :: b :: (num (csum (enc x)) ++ enc x)) = some (size, r) := h1
        unfold dnum dgo at h1
        rw [if_neg (by omega)] at h1
        unfold dgo at h1
        split at h1
        · split at h1
          · cases h1
          · rename_i hb1 hb2
            cases h1
            have hb3 : b ≠ 0 := fun h => hb2 ⟨h, rfl⟩
            rw [dnum_num] at h2
            cases h2
            exfalso
            apply hsh
            rw [List.length_take]
            omega
        · rw [dgo_num _ _ false _ _ _ (Nat.le_refl _) (fun _ => by omega)] at h1
          cases h1
          have h3 := dnum_len h2
          exfalso
          apply hsh
          rw [List.length_take]
          omega
  · rw [List.getElem?_append_right (by omega)] at hj
    rw [List.set_append_right _ _ (by omega), dnum_num] at h1
    cases h1
    generalize j - (num (enc x).length).length = i at *
    by_cases i1 : i < (num (csum (enc x))).length
    · rw [List.getElem?_append_left i1] at hj
      rw [List.set_append_left _ _ i1] at h2
      exact read_check hs hd hj hb hne h2 hsh hck
    · rw [List.getElem?_append_right (by omega)] at hj
      rw [List.set_append_right _ _ (by omega), dnum_num] at h2
      cases h2
      rw [show ((enc x).set (i - (num (csum (enc x))).length) b).take (enc x).length = (enc x).set (i - (num (csum (enc x))).length) b by rw [List.take_of_length_le]; rw [List.length_set]; exact Nat.le_refl _] at hck
      exact absurd hck (bent_body hn h255 hj hb hne)
theorem bent_no {x : Th} (hs : x.sm) (hd : x.dep ≤ 4) {j a b : Nat} (hj : (sld x)[j]? = some a) (hb : b < 256) (hne : a ≠ b) : dsld ((sld x).set j b) = none := by
  unfold dsld
  cases h1 : dnum ((sld x).set j b) with
  | none => rfl
  | some p =>
    obtain ⟨size, r⟩ := p
    dsimp only
    cases h2 : dnum r with
    | none => rfl
    | some p =>
      obtain ⟨check, r2⟩ := p
      dsimp only
      split
      · rfl
      · rename_i hbad
        have b1 : size ≠ 0 := fun h => hbad (.inl h)
        have b2 : ¬ (r2.take size).length < size := fun h => hbad (.inr (.inl h))
        have b3 : csum (r2.take size) = check := Classical.byContradiction fun h => hbad (.inr (.inr h))
        have hB := bent_row hs hd hj hb hne h1 h2 b1 b2 b3
        cases h3 : dec 40 (r2.take size) with
        | none => rfl
        | some p =>
          obtain ⟨y, l2⟩ := p
          dsimp only
          split
          · rfl
          · rename_i hl
            have : l2 = [] := Classical.byContradiction hl
            subst this
            exact absurd h3 (hB.2 y)
end K01
end
section
set_option Elab.async false
set_option linter.all false
set_option maxRecDepth 100000
set_option maxHeartbeats 1000000
/-! k01: small things for the law's walk. -/
namespace K01
open PySem Lt
theorem IsT_app {t : Nat} {H J : Hq} (h : IsT t H) : IsT t (H ++ J) := by
  obtain ⟨c, cs, i, l, s, z, h1, h2, h3, h4, h5⟩ := h
  refine ⟨c, cs, i, l, s, z, h1, ?_, h3, h4, ?_⟩
  · rw [List.getElem?_append_left (List.getElem?_eq_some_iff.mp h2).1]; exact h2
  · rw [List.getElem?_append_left (List.getElem?_eq_some_iff.mp h5).1]; exact h5
mutual
theorem dep_th : ∀ x : Th, x.e.dep ≤ x.dep
  | .non => by unfold Th.e E.dep; omega
  | .num n => by unfold Th.e E.dep; omega
  | .str l => by unfold Th.e E.dep; omega
  | .tup xs => by
    have := deps_th xs
    unfold Th.e E.dep Th.dep
    omega
theorem deps_th : ∀ xs : List Th, E.deps (Th.es xs) ≤ Th.deps xs
  | [] => by unfold Th.es E.deps; omega
  | x :: r => by
    have := dep_th x
    have := deps_th r
    unfold Th.es E.deps Th.deps
    omega
end
theorem ne_th {x : Th} (h : x.dep ≤ 60) : cmpop .ne x.e x.e = some false := ne_self (dat_th x) (by have := dep_th x; omega)
theorem ne_nats {l : List Nat} : cmpop .ne (.tup (nats l)) (.tup (nats l)) = some false := ne_self (dat_nats l) (by unfold E.dep; rw [deps_nats]; omega)
theorem ne_pair {x : Th} {n : Int} (h : x.dep ≤ 60) : cmpop .ne (.tup [x.e, .int n]) (.tup [x.e, .int n]) = some false := ne_self (dat_pair x n) (by
  have := dep_th x
  show max x.e.dep (max 0 0) + 1 ≤ 64
  omega)
theorem ne_num {n : Int} : cmpop .ne (.int n) (.int n) = some false := by rw [c_neI]; simp
theorem ne_ipair {m n : Int} : cmpop .ne (.tup [.int m, .int n]) (.tup [.int m, .int n]) = some false := ne_self rfl (by
  show max 0 (max 0 0) + 1 ≤ 64
  omega)
theorem ne_spair {s : Str} {n : Int} : cmpop .ne (.tup [.str s, .int n]) (.tup [.str s, .int n]) = some false := ne_self rfl (by
  show max 0 (max 0 0) + 1 ≤ 64
  omega)
theorem rf00 {k : Nat} : (Pn k).rf 0 0 = true := by show G.rf 0 0 = true; decide +kernel
theorem refd_ex {k : Nat} {a : Sx E} {ρ : Ro} {H H2 : Hq} (h : a ρ H = .ex 0 H2) : sRefd (Pn k) 0 a ρ H = .ok (.bl true) H2 := by
  unfold sRefd
  rw [h]
  exact if_pos rf00
theorem Small_drop {l : List Nat} {j : Nat} (h : Small l) : Small (l.drop j) := by
  intro i v r hd
  rw [List.drop_drop] at hd
  exact h _ v r hd
theorem dnum_drop {l r : List Nat} {v : Nat} (h : dnum l = some (v, r)) : ∃ j, r = l.drop j := by
  obtain ⟨p, hp⟩ := dgo_suffix h
  exact ⟨p.length, by rw [hp]; simp⟩
theorem Small_rest {l r r2 : List Nat} {size check : Nat} (hs : Small l) (h1 : dnum l = some (size, r)) (h2 : dnum r = some (check, r2)) : Small (r2.take size) := by
  obtain ⟨j1, rfl⟩ := dnum_drop h1
  obtain ⟨j2, rfl⟩ := dnum_drop h2
  exact Small_take (Small_drop (Small_drop hs))
theorem Sh_sld {x : Th} {r : List Nat} (hs : x.sm) (hd : x.dep ≤ 4) (hr : Sh r) : Sh (sld x ++ r) := by
  have h1 := enc_188 hs hd
  have h2 := csum_32 (enc x)
  unfold sld
  rw [List.append_assoc, List.append_assoc]
  exact Sh_num 4 _ _ (by omega) (by omega) (Sh_num 4 _ _ (by omega) (by omega) (Sh_enc x r hs hr))
theorem Small_sld {x : Th} (hs : x.sm) (hd : x.dep ≤ 4) : Small (sld x) := by
  have := Sh_sld (r := []) hs hd trivial
  rw [List.append_nil] at this
  exact Small_of this
theorem sld_len {x : Th} (hs : x.sm) (hd : x.dep ≤ 4) : (sld x).length ≤ 206 ∧ 1 ≤ (sld x).length := by
  have h1 := enc_188 hs hd
  have h2 := csum_32 (enc x)
  have h3 := num_len (n := (enc x).length) (by omega)
  have h4 := num_len (n := csum (enc x)) (by omega)
  have h5 := enc_pos x
  unfold sld
  rw [List.length_append, List.length_append]
  omega
theorem sld_255 {x : Th} (hs : x.sm) : ∀ a ∈ sld x, a < 256 := by
  intro a ha
  unfold sld at ha
  rcases List.mem_append.mp ha with ha | ha
  · rcases List.mem_append.mp ha with ha | ha
    · exact num_255 _ _ (Nat.le_refl _) a ha
    · exact num_255 _ _ (Nat.le_refl _) a ha
  · exact enc_255 x hs a ha
theorem cut_lo {row : List Nat} {b : Nat} : cutE none (some (b : Int)) (.tup (nats row)) = some (.tup (nats (row.take b))) := by
  show some (E.tup (((nats row).drop 0).take (HT.sIx (nats row).length (nats row).length (some (b : Int)) - 0))) = _
  rw [sIx_nat, nats_len, List.drop_zero, Nat.sub_zero]
  unfold nats
  rw [← List.map_take]
  congr 3
  rcases Nat.le_total b row.length with h | h
  · rw [Nat.min_eq_left h]
  · rw [Nat.min_eq_right h, List.take_of_length_le (Nat.le_refl _), List.take_of_length_le h]
theorem cut_hi {row : List Nat} {a : Nat} : cutE (some (a : Int)) none (.tup (nats row)) = some (.tup (nats (row.drop a))) := by
  show some (E.tup (((nats row).drop (HT.sIx (nats row).length 0 (some (a : Int)))).take ((nats row).length - HT.sIx (nats row).length 0 (some (a : Int))))) = _
  rw [sIx_nat, nats_len]
  unfold nats
  rw [← List.map_drop, ← List.map_take]
  congr 3
  rcases Nat.le_total a row.length with h | h
  · rw [Nat.min_eq_left h, List.take_of_length_le (by rw [List.length_drop]; omega)]
  · rw [Nat.min_eq_right h, List.drop_of_length_le (Nat.le_refl _), List.drop_of_length_le h]
    simp
/-- sealed rows that are refused -/
theorem sealed_ex {k : Nat} {row : List Nat} {H : Hq} (hk : 42 ≤ k) (hr : row.length ≤ 100000) (hn : dsld row = none)
    (hs : ∀ size r check r2, dnum row = some (size, r) → dnum r = some (check, r2) → size ≠ 0 → ¬ (r2.take size).length < size → csum (r2.take size) = check → Small (r2.take size)) : ∃ J, (Pn (k + 3)).cl 10 [.tup (nats row), .int 0] H = .ex 0 (H ++ J) := by
  have h := take_sealed_ok (k := k) (at0 := 0) (row := row) (H := H) hk hr (by omega) (by rw [List.drop_zero]; exact hs)
  rw [List.drop_zero, hn, ← par_cl] at h
  exact h
theorem sealed_cut {k size : Nat} {x : Th} {H : Hq} (hk : 42 ≤ k) (hs : x.sm) (hd : x.dep ≤ 4) (h : size < (sld x).length) : ∃ J, (Pn (k + 3)).cl 10 [.tup (nats ((sld x).take size)), .int 0] H = .ex 0 (H ++ J) := by
  have hl := sld_len hs hd
  exact sealed_ex hk (by rw [List.length_take]; omega) (dsld_cut h) fun _ _ _ _ h1 h2 _ _ _ => Small_rest (Small_take (Small_sld hs hd)) h1 h2
theorem sealed_bent {k j a b : Nat} {x : Th} {H : Hq} (hk : 42 ≤ k) (hs : x.sm) (hd : x.dep ≤ 4) (hj : (sld x)[j]? = some a) (hb : b < 256) (hne : a ≠ b) : ∃ J, (Pn (k + 3)).cl 10 [.tup (nats ((sld x).set j b)), .int 0] H = .ex 0 (H ++ J) := by
  have hl := sld_len hs hd
  exact sealed_ex hk (by rw [List.length_set]; omega) (bent_no hs hd hj hb hne) fun _ _ _ _ h1 h2 h3 h4 h5 => (bent_row hs hd hj hb hne h1 h2 h3 h4 h5).1
/-- a thing that is refused -/
theorem thing_ex {k : Nat} {row : List Nat} {H : Hq} (hk : 42 ≤ k) (hr : row.length ≤ 100000) (hn : dec 40 row = none) (hs : Sh row) : ∃ J, (Pn (k + 2)).cl 6 [.tup (nats row), .int 0] H = .ex 0 (H ++ J) := by
  have h := take_thing_ok (k := k) (at0 := 0) (row := row) (H := H) hk hr (by omega) (Small_of hs)
  rw [List.drop_zero, hn, ← par_cl] at h
  exact h
theorem thing_okN {k at0 : Nat} {row l : List Nat} {x : Th} {H : Hq} (hk : 42 ≤ k) (hr : row.length ≤ 100000) (ha : at0 ≤ row.length) (hn : dec 40 (row.drop at0) = some (x, l)) (hs : Sh row) : (Pn (k + 2)).cl 6 [.tup (nats row), .int (at0 : Int)] H = .ok (.tup [x.e, .int ((row.length - l.length : Nat) : Int)]) H := by
  have h := take_thing_ok (k := k) (at0 := at0) (row := row) (H := H) hk hr ha (Small_of hs)
  rw [hn, ← par_cl] at h
  exact h
theorem sealed_okN {k at0 : Nat} {row l : List Nat} {x : Th} {H : Hq} (hk : 42 ≤ k) (hr : row.length ≤ 100000) (ha : at0 ≤ 100000) (hn : dsld (row.drop at0) = some (x, l)) (hs : Sh row) : (Pn (k + 3)).cl 10 [.tup (nats row), .int (at0 : Int)] H = .ok (.tup [x.e, .int ((row.length - l.length : Nat) : Int)]) H := by
  have h := take_sealed_ok (k := k) (at0 := at0) (row := row) (H := H) hk hr ha fun _ _ _ _ h1 h2 _ _ _ => Small_rest (Small_drop (Small_of hs)) h1 h2
  rw [hn, ← par_cl] at h
  exact h
/-- nested rows of one -/
def dp : Nat → Th
  | 0 => .non
  | n + 1 => .tup [dp n]
theorem dp_dep : ∀ n, (dp n).dep = n + 1
  | 0 => by unfold dp Th.dep; rfl
  | n + 1 => by unfold dp Th.dep Th.deps Th.deps; rw [dp_dep n]; omega
theorem dp_fit : ∀ n, (dp n).fit
  | 0 => by unfold dp Th.fit; trivial
  | n + 1 => by unfold dp Th.fit Th.fits Th.fits; exact ⟨by simp, dp_fit n, trivial⟩
theorem dp_enc : ∀ n, enc (dp n) = (List.replicate n [3, 1]).flatten ++ [0]
  | 0 => by unfold dp enc; rfl
  | n + 1 => by
    unfold dp enc encs encs
    rw [dp_enc n, List.replicate_succ, List.flatten_cons, List.append_nil, num_lt (by simp)]
    rfl
theorem rows_len (n : Nat) : (List.replicate n [3, 1]).flatten.length = n * 2 := by
  induction n with
  | zero => rfl
  | succ n ih => rw [List.replicate_succ, List.flatten_cons, List.length_append, ih]; simp; omega
theorem rows_nats (n : Nat) : (List.replicate n [E.int 3, E.int 1]).flatten = nats (List.replicate n [3, 1]).flatten := by
  induction n with
  | zero => rfl
  | succ n ih => rw [List.replicate_succ, List.flatten_cons, ih, List.replicate_succ, List.flatten_cons, nats_app]; rfl
theorem rows_Sh (n : Nat) : Sh ((List.replicate n [3, 1]).flatten ++ [0]) := by
  induction n with
  | zero => exact Sh_lo (by omega) trivial
  | succ n ih =>
    rw [List.replicate_succ, List.flatten_cons, List.append_assoc]
    exact Sh_lo (by omega) (Sh_lo (by omega) ih)
theorem dp_ex : ∀ (left k : Nat) (H : Hq) (n : Nat), left ≤ n → left + 1 ≤ k → (Pn (k + 1)).cl 5 [(dp n).e, .int (left : Int)] H = .ex 0 H
  | 0, k, H, n, hn, hk => by
    rw [par_cl, cl_succ (fn := f5) rfl rfl]
    show endR true H (b5.ev (Pn k) [some (dp n).e, some (.int ((0 : Nat) : Int)), none, none] H) = _
    have e : b5.ev (Pn k) [some (dp n).e, some (.int ((0 : Nat) : Int)), none, none] H = .ex 0 [some (dp n).e, some (.int ((0 : Nat) : Int)), none, none] H := by
      have c : decide (((0 : Nat) : Int) < 1) = true := by decide
      simp -implicitDefEqProofs only [Stms.ev, Stm.ev, Ex.ev, Ex.evT, Exs.ev, Exs.evAnd, Exs.evOr, Exs.evTAnd, Exs.evTOr, Ox.ev, Ox.evT, Lx.ev, It.ev, v_c, v_bin, v_cmp, v_bl, v_isN, v_ntN, v_not, v_tru, v_asB, v_and, v_or, v_if, v_tup, v_nil, v_cons, v_sub, v_onone, v_osome, v_slice, v_call, v_glb, v_ofE, v_disp, v_cat, v_bi1, v_biL, v_isi, v_inS, v_sidx, v_join, v_subL, v_new, v_dct, v_lenSet, v_yes, v_itL, v_itA, v_itR1, v_itR2, v_lc, q_v_asg, q_v_par, q_v_setD, q_v_expr, q_v_app, q_v_if, q_v_for, q_v_ret, o_add, o_sub, c_lt, c_le, c_gt, c_ge, a_add, R.bind_ok, R.bind_ex, R.bind_bad, R.st_ok, R.st_ex, R.st_bad, RS.seq_nx, RS.seq_rt, RS.seq_ex, RS.seq_bk, RS.seq_ct, RS.seq_bad, optR_some, optR_none, Tg.set, setAll, asB, Lt.truthy, isNon, biLE, getL_tmp, getM_tmp, Option.isSome_some, reduceIte, if_true, if_false, Bool.false_eq_true, Option.map_some, w0, w1, w2, w3, w4, w5, w6, w7, w8, w9, w10, w11, w12, w13, w14, w15, w16, w17, w18, w19, w20, w21, w22, w23, w24, x0, x1, x2, x3, x4, x5, x6, x7, x8, x9, x10, x11, x12, x13, x14, x15, x16, x17, x18, x19, x20, x21, x22, x23, x24, z0, z1, z2, z3, z4, z5, z6, z7, z8, z9, z10, z11, z12, z13, z14, z15, z16, z17, z18, z19, z20, z21, z22, z23, z24, y0, y1, y2, y3, y4, y5, y6, y7, y8, y9, y10, y11, y12, y13, y14, y15, y16, y17, y18, y19, y20, y21, y22, y23, y24, b5, c]
    rw [e]
    rfl
  | left + 1, k, H, 0, hn, hk => by omega
  | left + 1, k, H, n + 1, hn, hk => by
    obtain ⟨k, rfl⟩ : ∃ k', k = k' + 1 := ⟨k - 1, by omega⟩
    have ih := dp_ex left k H n (by omega) (by omega)
    have h2 := put_number_ok (k := k) (n := 1) (H := H) (by decide)
    rw [← par_cl, num_lt (by omega)] at h2
    rw [par_cl, cl_succ (fn := f5) rfl rfl]
    show endR true H (b5.ev (Pn (k + 1)) [some (.tup [(dp n).e]), some (.int ((left + 1 : Nat) : Int)), none, none] H) = _
    have ih : (Pn (k + 1)).cl 5 [(dp n).e, .int (((left + 1 : Nat) : Int) - 1)] H = .ex 0 H := by
      rw [show (((left + 1 : Nat) : Int) - 1) = (left : Int) by omega]
      exact ih
    have hb : b5_0.ev (Pn (k + 1)) [some (.tup [(dp n).e]), some (.int ((left + 1 : Nat) : Int)), some (.tup (nats [3, 1])), some (dp n).e] H = .ex 0 [some (.tup [(dp n).e]), some (.int ((left + 1 : Nat) : Int)), some (.tup (nats [3, 1])), some (dp n).e] H := by
      simp -implicitDefEqProofs only [Stms.ev, Stm.ev, Ex.ev, Ex.evT, Exs.ev, Exs.evAnd, Exs.evOr, Exs.evTAnd, Exs.evTOr, Ox.ev, Ox.evT, Lx.ev, It.ev, v_c, v_bin, v_cmp, v_bl, v_isN, v_ntN, v_not, v_tru, v_asB, v_and, v_or, v_if, v_tup, v_nil, v_cons, v_sub, v_onone, v_osome, v_slice, v_call, v_glb, v_ofE, v_disp, v_cat, v_bi1, v_biL, v_isi, v_inS, v_sidx, v_join, v_subL, v_new, v_dct, v_lenSet, v_yes, v_itL, v_itA, v_itR1, v_itR2, v_lc, q_v_asg, q_v_par, q_v_setD, q_v_expr, q_v_app, q_v_if, q_v_for, q_v_ret, o_add, o_sub, c_lt, c_le, c_gt, c_ge, a_add, R.bind_ok, R.bind_ex, R.bind_bad, R.st_ok, R.st_ex, R.st_bad, RS.seq_nx, RS.seq_rt, RS.seq_ex, RS.seq_bk, RS.seq_ct, RS.seq_bad, optR_some, optR_none, Tg.set, setAll, asB, Lt.truthy, isNon, biLE, getL_tmp, getM_tmp, Option.isSome_some, reduceIte, if_true, if_false, Bool.false_eq_true, Option.map_some, w0, w1, w2, w3, w4, w5, w6, w7, w8, w9, w10, w11, w12, w13, w14, w15, w16, w17, w18, w19, w20, w21, w22, w23, w24, x0, x1, x2, x3, x4, x5, x6, x7, x8, x9, x10, x11, x12, x13, x14, x15, x16, x17, x18, x19, x20, x21, x22, x23, x24, z0, z1, z2, z3, z4, z5, z6, z7, z8, z9, z10, z11, z12, z13, z14, z15, z16, z17, z18, z19, z20, z21, z22, z23, z24, y0, y1, y2, y3, y4, y5, y6, y7, y8, y9, y10, y11, y12, y13, y14, y15, y16, y17, y18, y19, y20, y21, y22, y23, y24, b5_0, ih]
    have c : decide (((left + 1 : Nat) : Int) < 1) = false := decide_eq_false (by omega)
    have i1 : isiE .str (.tup [(dp n).e]) = some false := rfl
    have i2 : isiE .tup (.tup [(dp n).e]) = some true := rfl
    have l1 : lenE H (.tup [(dp n).e]) = some 1 := rfl
    have it : itE H (.tup [(dp n).e]) = some ([(dp n).e], none) := rfl
    have a1 : binop .add (.tup [E.int 3]) (.tup (nats [1])) = some (.tup (nats [3, 1])) := o_addT (by simp [nats])
    have s1 : [E.int 3].length ≤ sizeLine := le_line (by simp)
    have hfor : ∀ tg : Tg, tg = .name ⟨3, "part", ⟨48, 12, 48, 16⟩⟩ → forS none [(dp n).e] tg (b5_0.ev (Pn (k + 1))) [(dp n).e] [some (.tup [(dp n).e]), some (.int ((left + 1 : Nat) : Int)), some (.tup (nats [3, 1])), none] H = .ex 0 [some (.tup [(dp n).e]), some (.int ((left + 1 : Nat) : Int)), some (.tup (nats [3, 1])), some (dp n).e] H := by
      intro tg ht
      subst ht
      rw [for_ex (ρ1 := [some (.tup [(dp n).e]), some (.int ((left + 1 : Nat) : Int)), some (.tup (nats [3, 1])), some (dp n).e]) rfl rfl hb]
    have e : b5.ev (Pn (k + 1)) [some (.tup [(dp n).e]), some (.int ((left + 1 : Nat) : Int)), none, none] H = .ex 0 [some (.tup [(dp n).e]), some (.int ((left + 1 : Nat) : Int)), some (.tup (nats [3, 1])), some (dp n).e] H := by
      have hf := hfor _ rfl
      simp -implicitDefEqProofs only [Stms.ev, Stm.ev, Ex.ev, Ex.evT, Exs.ev, Exs.evAnd, Exs.evOr, Exs.evTAnd, Exs.evTOr, Ox.ev, Ox.evT, Lx.ev, It.ev, v_c, v_bin, v_cmp, v_bl, v_isN, v_ntN, v_not, v_tru, v_asB, v_and, v_or, v_if, v_tup, v_nil, v_cons, v_sub, v_onone, v_osome, v_slice, v_call, v_glb, v_ofE, v_disp, v_cat, v_bi1, v_biL, v_isi, v_inS, v_sidx, v_join, v_subL, v_new, v_dct, v_lenSet, v_yes, v_itL, v_itA, v_itR1, v_itR2, v_lc, q_v_asg, q_v_par, q_v_setD, q_v_expr, q_v_app, q_v_if, q_v_for, q_v_ret, o_add, o_sub, c_lt, c_le, c_gt, c_ge, a_add, R.bind_ok, R.bind_ex, R.bind_bad, R.st_ok, R.st_ex, R.st_bad, RS.seq_nx, RS.seq_rt, RS.seq_ex, RS.seq_bk, RS.seq_ct, RS.seq_bad, optR_some, optR_none, Tg.set, setAll, asB, Lt.truthy, isNon, biLE, getL_tmp, getM_tmp, Option.isSome_some, reduceIte, if_true, if_false, Bool.false_eq_true, Option.map_some, w0, w1, w2, w3, w4, w5, w6, w7, w8, w9, w10, w11, w12, w13, w14, w15, w16, w17, w18, w19, w20, w21, w22, w23, w24, x0, x1, x2, x3, x4, x5, x6, x7, x8, x9, x10, x11, x12, x13, x14, x15, x16, x17, x18, x19, x20, x21, x22, x23, x24, z0, z1, z2, z3, z4, z5, z6, z7, z8, z9, z10, z11, z12, z13, z14, z15, z16, z17, z18, z19, z20, z21, z22, z23, z24, y0, y1, y2, y3, y4, y5, y6, y7, y8, y9, y10, y11, y12, y13, y14, y15, y16, y17, y18, y19, y20, y21, y22, y23, y24, b5, c, i1, i2, bi1E, l1, h2, a1, s1, it, hf]
    rw [e]
    rfl
theorem put_thing_ex {k n : Nat} {H : Hq} (hn : 40 ≤ n) (hk : 42 ≤ k) : (Pn (k + 2)).cl 4 [(dp n).e] H = .ex 0 H := by
  have h := dp_ex 40 k H n hn (by omega)
  have h : (Pn (k + 1)).cl 5 [(dp n).e, .int 40] H = .ex 0 H := h
  rw [par_cl, cl_succ (fn := f4) rfl rfl]
  show endR true H (b4.ev (Pn (k + 1)) [some (dp n).e] H) = _
  have e : b4.ev (Pn (k + 1)) [some (dp n).e] H = .ex 0 [some (dp n).e] H := by
    simp -implicitDefEqProofs only [Stms.ev, Stm.ev, Ex.ev, Ex.evT, Exs.ev, Exs.evAnd, Exs.evOr, Exs.evTAnd, Exs.evTOr, Ox.ev, Ox.evT, Lx.ev, It.ev, v_c, v_bin, v_cmp, v_bl, v_isN, v_ntN, v_not, v_tru, v_asB, v_and, v_or, v_if, v_tup, v_nil, v_cons, v_sub, v_onone, v_osome, v_slice, v_call, v_glb, v_ofE, v_disp, v_cat, v_bi1, v_biL, v_isi, v_inS, v_sidx, v_join, v_subL, v_new, v_dct, v_lenSet, v_yes, v_itL, v_itA, v_itR1, v_itR2, v_lc, q_v_asg, q_v_par, q_v_setD, q_v_expr, q_v_app, q_v_if, q_v_for, q_v_ret, o_add, o_sub, c_lt, c_le, c_gt, c_ge, a_add, R.bind_ok, R.bind_ex, R.bind_bad, R.st_ok, R.st_ex, R.st_bad, RS.seq_nx, RS.seq_rt, RS.seq_ex, RS.seq_bk, RS.seq_ct, RS.seq_bad, optR_some, optR_none, Tg.set, setAll, asB, Lt.truthy, isNon, biLE, getL_tmp, getM_tmp, Option.isSome_some, reduceIte, if_true, if_false, Bool.false_eq_true, Option.map_some, w0, w1, w2, w3, w4, w5, w6, w7, w8, w9, w10, w11, w12, w13, w14, w15, w16, w17, w18, w19, w20, w21, w22, w23, w24, x0, x1, x2, x3, x4, x5, x6, x7, x8, x9, x10, x11, x12, x13, x14, x15, x16, x17, x18, x19, x20, x21, x22, x23, x24, z0, z1, z2, z3, z4, z5, z6, z7, z8, z9, z10, z11, z12, z13, z14, z15, z16, z17, z18, z19, z20, z21, z22, z23, z24, y0, y1, y2, y3, y4, y5, y6, y7, y8, y9, y10, y11, y12, y13, y14, y15, y16, y17, y18, y19, y20, y21, y22, y23, y24, b4, glb1, h]
  rw [e]
  rfl
theorem put_number_ex {k : Nat} {H : Hq} : (Pn (k + 1)).cl 0 [.int (0 - 1)] H = .ex 0 H := by
  rw [par_cl, cl_succ (fn := f0) rfl rfl]
  show endR true H (b0.ev (Pn k) [some (.int (0 - 1)), none] H) = _
  have c : decide ((0 - 1 : Int) < 0) = true := by decide
  have e : b0.ev (Pn k) [some (.int (0 - 1)), none] H = .ex 0 [some (.int (0 - 1)), none] H := by
    simp -implicitDefEqProofs only [Stms.ev, Stm.ev, Ex.ev, Ex.evT, Exs.ev, Exs.evAnd, Exs.evOr, Exs.evTAnd, Exs.evTOr, Ox.ev, Ox.evT, Lx.ev, It.ev, v_c, v_bin, v_cmp, v_bl, v_isN, v_ntN, v_not, v_tru, v_asB, v_and, v_or, v_if, v_tup, v_nil, v_cons, v_sub, v_onone, v_osome, v_slice, v_call, v_glb, v_ofE, v_disp, v_cat, v_bi1, v_biL, v_isi, v_inS, v_sidx, v_join, v_subL, v_new, v_dct, v_lenSet, v_yes, v_itL, v_itA, v_itR1, v_itR2, v_lc, q_v_asg, q_v_par, q_v_setD, q_v_expr, q_v_app, q_v_if, q_v_for, q_v_ret, o_add, o_sub, c_lt, c_le, c_gt, c_ge, a_add, R.bind_ok, R.bind_ex, R.bind_bad, R.st_ok, R.st_ex, R.st_bad, RS.seq_nx, RS.seq_rt, RS.seq_ex, RS.seq_bk, RS.seq_ct, RS.seq_bad, optR_some, optR_none, Tg.set, setAll, asB, Lt.truthy, isNon, biLE, getL_tmp, getM_tmp, Option.isSome_some, reduceIte, if_true, if_false, Bool.false_eq_true, Option.map_some, w0, w1, w2, w3, w4, w5, w6, w7, w8, w9, w10, w11, w12, w13, w14, w15, w16, w17, w18, w19, w20, w21, w22, w23, w24, x0, x1, x2, x3, x4, x5, x6, x7, x8, x9, x10, x11, x12, x13, x14, x15, x16, x17, x18, x19, x20, x21, x22, x23, x24, z0, z1, z2, z3, z4, z5, z6, z7, z8, z9, z10, z11, z12, z13, z14, z15, z16, z17, z18, z19, z20, z21, z22, z23, z24, y0, y1, y2, y3, y4, y5, y6, y7, y8, y9, y10, y11, y12, y13, y14, y15, y16, y17, y18, y19, y20, y21, y22, y23, y24, b0, c]
  rw [e]
  rfl
theorem take_number_ex {k : Nat} {H : Hq} : ∃ J, (Pn (k + 1)).cl 1 [.tup [.int 128, .int 0], .int 0] H = .ex 0 (H ++ J) := by
  have h := take_number_ok (k := k) (at0 := 0) (row := [128, 0]) (H := H) (by simp) (by omega)
  rw [← par_cl, show dnum (([128, 0] : List Nat).drop 0) = none from rfl] at h
  exact ⟨[], by rw [List.append_nil]; exact h⟩
end K01
end
section
set_option Elab.async false
set_option linter.all false
set_option maxRecDepth 100000
set_option maxHeartbeats 1000000
/-! The law's body, cut into its statements. Printed by cut.py. -/
namespace K01
open PySem Lt
def c16_0 : Stm := (.asg (.name ⟨1, "tape", ⟨145, 4, 145, 8⟩⟩) (.call 11 "_law_tape" (.cons (.var 0 "script" ⟨145, 21, 145, 27⟩) .nil) ⟨145, 11, 145, 20⟩ ⟨145, 11, 145, 28⟩) ⟨145, 4, 145, 28⟩)
def c16_1 : Stm := (.par ⟨2, "thing", ⟨146, 4, 146, 9⟩⟩ ⟨3, "other", ⟨146, 11, 146, 16⟩⟩ (.call 13 "_law_thing" (.cons (.var 1 "tape" ⟨146, 31, 146, 35⟩) (.cons (.int 3 0 ⟨146, 37, 146, 38⟩) .nil)) ⟨146, 20, 146, 30⟩ ⟨146, 20, 146, 39⟩) (.call 13 "_law_thing" (.cons (.var 1 "tape" ⟨146, 52, 146, 56⟩) (.cons (.int 2 0 ⟨146, 58, 146, 59⟩) .nil)) ⟨146, 41, 146, 51⟩ ⟨146, 41, 146, 60⟩) 0 0 ⟨146, 4, 146, 16⟩ ⟨146, 19, 146, 61⟩ ⟨146, 4, 146, 61⟩)
def c16_2 : Stm := (.asg (.name ⟨4, "body", ⟨147, 4, 147, 8⟩⟩) (.call 15 "_law_bytes" (.cons (.var 2 "thing" ⟨147, 22, 147, 27⟩) .nil) ⟨147, 11, 147, 21⟩ ⟨147, 11, 147, 28⟩) ⟨147, 4, 147, 28⟩)
def c16_3 : Stm := (.ifs (.or (.cons (.cmp .ne (.call 4 "put_thing" (.cons (.var 2 "thing" ⟨148, 17, 148, 22⟩) .nil) ⟨148, 7, 148, 16⟩ ⟨148, 7, 148, 23⟩) (.var 4 "body" ⟨148, 27, 148, 31⟩) ⟨148, 7, 148, 31⟩) (.cons (.cmp .ne (.call 6 "take_thing" (.cons (.var 4 "body" ⟨148, 46, 148, 50⟩) (.cons (.int 0 0 ⟨148, 52, 148, 53⟩) .nil)) ⟨148, 35, 148, 45⟩ ⟨148, 35, 148, 54⟩) (.tup (.cons (.var 2 "thing" ⟨148, 59, 148, 64⟩) (.cons (.bi1 .len (.var 4 "body" ⟨148, 70, 148, 74⟩) ⟨148, 66, 148, 69⟩ ⟨148, 66, 148, 75⟩) .nil)) 0 ⟨148, 58, 148, 76⟩) ⟨148, 35, 148, 76⟩) (.cons (.cmp .ne (.call 6 "take_thing" (.cons (.bin .add (.var 4 "body" ⟨148, 91, 148, 95⟩) (.var 4 "body" ⟨148, 98, 148, 102⟩) ⟨148, 91, 148, 102⟩) (.cons (.bi1 .len (.var 4 "body" ⟨148, 108, 148, 112⟩) ⟨148, 104, 148, 107⟩ ⟨148, 104, 148, 113⟩) .nil)) ⟨148, 80, 148, 90⟩ ⟨148, 80, 148, 114⟩) (.tup (.cons (.var 2 "thing" ⟨148, 119, 148, 124⟩) (.cons (.bin .mul (.int 2 0 ⟨148, 126, 148, 127⟩) (.bi1 .len (.var 4 "body" ⟨148, 134, 148, 138⟩) ⟨148, 130, 148, 133⟩ ⟨148, 130, 148, 139⟩) ⟨148, 126, 148, 139⟩) .nil)) 0 ⟨148, 118, 148, 140⟩) ⟨148, 80, 148, 140⟩) .nil))) ⟨148, 7, 148, 140⟩) (.cons (.ret (.bl false 0 ⟨149, 15, 149, 20⟩) ⟨149, 8, 149, 20⟩) .nil) .nil ⟨148, 4, 149, 20⟩)
def c16_4 : Stm := (.asg (.tup [⟨5, "low", ⟨150, 4, 150, 7⟩⟩, ⟨6, "high", ⟨150, 9, 150, 13⟩⟩] 0 ⟨150, 4, 150, 13⟩) (.tup (.cons (.int 1 0 ⟨150, 17, 150, 18⟩) (.cons (.int 0 0 ⟨150, 20, 150, 21⟩) .nil)) 0 ⟨150, 16, 150, 22⟩) ⟨150, 4, 150, 22⟩)
def c16_5 : Stm := (.forr (.name ⟨7, "a", ⟨151, 8, 151, 9⟩⟩) (.a (.var 4 "body" ⟨151, 13, 151, 17⟩)) b16_4 ⟨151, 4, 153, 25⟩)
def c16_6 : Stm := (.asg (.name ⟨8, "check", ⟨154, 4, 154, 9⟩⟩) (.bin .add (.bin .mul (.bin .mod (.bi1 .int (.var 6 "high" ⟨154, 16, 154, 20⟩) ⟨154, 12, 154, 15⟩ ⟨154, 12, 154, 21⟩) (.int 65521 0 ⟨154, 24, 154, 29⟩) ⟨154, 12, 154, 29⟩) (.int 65521 0 ⟨154, 32, 154, 37⟩) ⟨154, 12, 154, 37⟩) (.bin .mod (.bi1 .int (.var 5 "low" ⟨154, 44, 154, 47⟩) ⟨154, 40, 154, 43⟩ ⟨154, 40, 154, 48⟩) (.int 65521 0 ⟨154, 51, 154, 56⟩) ⟨154, 40, 154, 56⟩) ⟨154, 12, 154, 56⟩) ⟨154, 4, 154, 56⟩)
def c16_7 : Stm := (.asg (.name ⟨19, "row", ⟨155, 4, 155, 7⟩⟩) (.bin .add (.bin .add (.call 14 "_law_number" (.cons (.bi1 .len (.var 4 "body" ⟨155, 26, 155, 30⟩) ⟨155, 22, 155, 25⟩ ⟨155, 22, 155, 31⟩) .nil) ⟨155, 10, 155, 21⟩ ⟨155, 10, 155, 32⟩) (.call 14 "_law_number" (.cons (.var 8 "check" ⟨155, 47, 155, 52⟩) .nil) ⟨155, 35, 155, 46⟩ ⟨155, 35, 155, 53⟩) ⟨155, 10, 155, 53⟩) (.var 4 "body" ⟨155, 56, 155, 60⟩) ⟨155, 10, 155, 60⟩) ⟨155, 4, 155, 60⟩)
def c16_8 : Stm := (.ifs (.or (.cons (.cmp .ne (.call 8 "check_sum" (.cons (.var 4 "body" ⟨156, 17, 156, 21⟩) .nil) ⟨156, 7, 156, 16⟩ ⟨156, 7, 156, 22⟩) (.var 8 "check" ⟨156, 26, 156, 31⟩) ⟨156, 7, 156, 31⟩) (.cons (.cmp .ne (.call 9 "put_sealed" (.cons (.var 2 "thing" ⟨156, 46, 156, 51⟩) .nil) ⟨156, 35, 156, 45⟩ ⟨156, 35, 156, 52⟩) (.var 19 "row" ⟨156, 56, 156, 59⟩) ⟨156, 35, 156, 59⟩) (.cons (.cmp .ne (.call 10 "take_sealed" (.cons (.var 19 "row" ⟨156, 75, 156, 78⟩) (.cons (.int 0 0 ⟨156, 80, 156, 81⟩) .nil)) ⟨156, 63, 156, 74⟩ ⟨156, 63, 156, 82⟩) (.tup (.cons (.var 2 "thing" ⟨156, 87, 156, 92⟩) (.cons (.bi1 .len (.var 19 "row" ⟨156, 98, 156, 101⟩) ⟨156, 94, 156, 97⟩ ⟨156, 94, 156, 102⟩) .nil)) 0 ⟨156, 86, 156, 103⟩) ⟨156, 63, 156, 103⟩) (.cons (.cmp .ne (.call 8 "check_sum" (.cons (.tup .nil 0 ⟨156, 118, 156, 120⟩) .nil) ⟨156, 108, 156, 117⟩ ⟨156, 108, 156, 121⟩) (.int 1 0 ⟨156, 125, 156, 126⟩) ⟨156, 108, 156, 126⟩) .nil)))) ⟨156, 7, 156, 127⟩) (.cons (.ret (.bl false 0 ⟨157, 15, 157, 20⟩) ⟨157, 8, 157, 20⟩) .nil) .nil ⟨156, 4, 157, 20⟩)
def c16_9 : Stm := (.asg (.name ⟨9, "both", ⟨158, 4, 158, 8⟩⟩) (.bin .add (.var 19 "row" ⟨158, 11, 158, 14⟩) (.call 9 "put_sealed" (.cons (.var 3 "other" ⟨158, 28, 158, 33⟩) .nil) ⟨158, 17, 158, 27⟩ ⟨158, 17, 158, 34⟩) ⟨158, 11, 158, 34⟩) ⟨158, 4, 158, 34⟩)
def c16_10 : Stm := (.asg (.tup [⟨10, "first", ⟨159, 4, 159, 9⟩⟩, ⟨11, "at", ⟨159, 11, 159, 13⟩⟩] 0 ⟨159, 4, 159, 13⟩) (.call 10 "take_sealed" (.cons (.var 9 "both" ⟨159, 28, 159, 32⟩) (.cons (.int 0 0 ⟨159, 34, 159, 35⟩) .nil)) ⟨159, 16, 159, 27⟩ ⟨159, 16, 159, 36⟩) ⟨159, 4, 159, 36⟩)
def c16_11 : Stm := (.ifs (.or (.cons (.cmp .ne (.var 10 "first" ⟨160, 7, 160, 12⟩) (.var 2 "thing" ⟨160, 16, 160, 21⟩) ⟨160, 7, 160, 21⟩) (.cons (.cmp .ne (.call 10 "take_sealed" (.cons (.var 9 "both" ⟨160, 37, 160, 41⟩) (.cons (.var 11 "at" ⟨160, 43, 160, 45⟩) .nil)) ⟨160, 25, 160, 36⟩ ⟨160, 25, 160, 46⟩) (.tup (.cons (.var 3 "other" ⟨160, 51, 160, 56⟩) (.cons (.bi1 .len (.var 9 "both" ⟨160, 62, 160, 66⟩) ⟨160, 58, 160, 61⟩ ⟨160, 58, 160, 67⟩) .nil)) 0 ⟨160, 50, 160, 68⟩) ⟨160, 25, 160, 68⟩) .nil)) ⟨160, 7, 160, 68⟩) (.cons (.ret (.bl false 0 ⟨161, 15, 161, 20⟩) ⟨161, 8, 161, 20⟩) .nil) .nil ⟨160, 4, 161, 20⟩)
def c16_12 : Stm := (.forr (.name ⟨20, "size", ⟨162, 8, 162, 12⟩⟩) (.r1 (.bi1 .len (.var 19 "row" ⟨162, 26, 162, 29⟩) ⟨162, 22, 162, 25⟩ ⟨162, 22, 162, 30⟩) ⟨162, 16, 162, 21⟩ ⟨162, 16, 162, 31⟩) b16_3 ⟨162, 4, 164, 24⟩)
def c16_13 : Stm := (.asg (.name ⟨11, "at", ⟨165, 4, 165, 6⟩⟩) (.call 12 "_law_take" (.cons (.var 1 "tape" ⟨165, 19, 165, 23⟩) (.cons (.bi1 .len (.var 19 "row" ⟨165, 29, 165, 32⟩) ⟨165, 25, 165, 28⟩ ⟨165, 25, 165, 33⟩) .nil)) ⟨165, 9, 165, 18⟩ ⟨165, 9, 165, 34⟩) ⟨165, 4, 165, 34⟩)
def c16_14 : Stm := (.asg (.name ⟨16, "bent", ⟨166, 4, 166, 8⟩⟩) (.bin .add (.bin .add (.slice (.var 19 "row" ⟨166, 11, 166, 14⟩) .none (.some (.var 11 "at" ⟨166, 16, 166, 18⟩)) ⟨166, 15, 166, 18⟩ ⟨166, 11, 166, 19⟩) (.tup (.cons (.bin .mod (.bi1 .int (.bin .add (.bin .add (.sub (.var 19 "row" ⟨166, 27, 166, 30⟩) (.var 11 "at" ⟨166, 31, 166, 33⟩) ⟨166, 27, 166, 34⟩) (.int 1 0 ⟨166, 37, 166, 38⟩) ⟨166, 27, 166, 38⟩) (.call 12 "_law_take" (.cons (.var 1 "tape" ⟨166, 51, 166, 55⟩) (.cons (.int 255 0 ⟨166, 57, 166, 60⟩) .nil)) ⟨166, 41, 166, 50⟩ ⟨166, 41, 166, 61⟩) ⟨166, 27, 166, 61⟩) ⟨166, 23, 166, 26⟩ ⟨166, 23, 166, 62⟩) (.int 256 0 ⟨166, 65, 166, 68⟩) ⟨166, 23, 166, 68⟩) .nil) 0 ⟨166, 22, 166, 70⟩) ⟨166, 11, 166, 70⟩) (.slice (.var 19 "row" ⟨166, 73, 166, 76⟩) (.some (.bin .add (.var 11 "at" ⟨166, 77, 166, 79⟩) (.int 1 0 ⟨166, 82, 166, 83⟩) ⟨166, 77, 166, 83⟩)) .none ⟨166, 77, 166, 84⟩ ⟨166, 73, 166, 85⟩) ⟨166, 11, 166, 85⟩) ⟨166, 4, 166, 85⟩)
def c16_15 : Stm := (.ifs (.not (.refd 0 "_law_refused" (.call 10 "take_sealed" (.cons (.var 16 "bent" ⟨167, 44, 167, 48⟩) (.cons (.int 0 0 ⟨167, 50, 167, 51⟩) .nil)) ⟨167, 32, 167, 43⟩ ⟨167, 32, 167, 52⟩) sc12 ⟨167, 11, 167, 23⟩ ⟨167, 24, 167, 52⟩ ⟨167, 11, 167, 53⟩) ⟨167, 7, 167, 53⟩) (.cons (.ret (.bl false 0 ⟨168, 15, 168, 20⟩) ⟨168, 8, 168, 20⟩) .nil) .nil ⟨167, 4, 168, 20⟩)
def c16_16 : Stm := (.asg (.name ⟨12, "number", ⟨169, 4, 169, 10⟩⟩) (.subL (.disp (.cons (.call 12 "_law_take" (.cons (.var 1 "tape" ⟨169, 24, 169, 28⟩) (.cons (.int 300 0 ⟨169, 30, 169, 33⟩) .nil)) ⟨169, 14, 169, 23⟩ ⟨169, 14, 169, 34⟩) (.cons (.call 12 "_law_take" (.cons (.var 1 "tape" ⟨169, 46, 169, 50⟩) (.cons (.int 100000 0 ⟨169, 52, 169, 58⟩) .nil)) ⟨169, 36, 169, 45⟩ ⟨169, 36, 169, 59⟩) .nil)) ⟨169, 13, 169, 60⟩) (.call 12 "_law_take" (.cons (.var 1 "tape" ⟨169, 71, 169, 75⟩) (.cons (.int 2 0 ⟨169, 77, 169, 78⟩) .nil)) ⟨169, 61, 169, 70⟩ ⟨169, 61, 169, 79⟩) ⟨169, 13, 169, 80⟩) ⟨169, 4, 169, 80⟩)
def c16_17 : Stm := (.ifs (.or (.cons (.cmp .ne (.call 0 "put_number" (.cons (.var 12 "number" ⟨170, 18, 170, 24⟩) .nil) ⟨170, 7, 170, 17⟩ ⟨170, 7, 170, 25⟩) (.call 14 "_law_number" (.cons (.var 12 "number" ⟨170, 41, 170, 47⟩) .nil) ⟨170, 29, 170, 40⟩ ⟨170, 29, 170, 48⟩) ⟨170, 7, 170, 48⟩) (.cons (.cmp .ne (.call 1 "take_number" (.cons (.bin .add (.tup (.cons (.int 9 0 ⟨170, 65, 170, 66⟩) .nil) 0 ⟨170, 64, 170, 68⟩) (.call 0 "put_number" (.cons (.var 12 "number" ⟨170, 82, 170, 88⟩) .nil) ⟨170, 71, 170, 81⟩ ⟨170, 71, 170, 89⟩) ⟨170, 64, 170, 89⟩) (.cons (.int 1 0 ⟨170, 91, 170, 92⟩) .nil)) ⟨170, 52, 170, 63⟩ ⟨170, 52, 170, 93⟩) (.tup (.cons (.var 12 "number" ⟨170, 98, 170, 104⟩) (.cons (.bin .add (.int 1 0 ⟨170, 106, 170, 107⟩) (.bi1 .len (.call 0 "put_number" (.cons (.var 12 "number" ⟨170, 125, 170, 131⟩) .nil) ⟨170, 114, 170, 124⟩ ⟨170, 114, 170, 132⟩) ⟨170, 110, 170, 113⟩ ⟨170, 110, 170, 133⟩) ⟨170, 106, 170, 133⟩) .nil)) 0 ⟨170, 97, 170, 134⟩) ⟨170, 52, 170, 134⟩) .nil)) ⟨170, 7, 170, 134⟩) (.cons (.ret (.bl false 0 ⟨171, 15, 171, 20⟩) ⟨171, 8, 171, 20⟩) .nil) .nil ⟨170, 4, 171, 20⟩)
def c16_18 : Stm := (.asg (.name ⟨14, "text", ⟨172, 4, 172, 8⟩⟩) (.join (.str "" 0 ⟨172, 11, 172, 13⟩) (.lc b16_2 (.name ⟨13, "k", ⟨172, 65, 172, 66⟩⟩) (.r1 (.call 12 "_law_take" (.cons (.var 1 "tape" ⟨172, 86, 172, 90⟩) (.cons (.int 6 0 ⟨172, 92, 172, 93⟩) .nil)) ⟨172, 76, 172, 85⟩ ⟨172, 76, 172, 94⟩) ⟨172, 70, 172, 75⟩ ⟨172, 70, 172, 95⟩) .none sc5 [(".0", 21), ("k", 13)] ⟨172, 19, 172, 96⟩) ⟨172, 11, 172, 18⟩ ⟨172, 11, 172, 97⟩) ⟨172, 4, 172, 97⟩)
def c16_19 : Stm := (.ifs (.or (.cons (.cmp .ne (.call 3 "take_text" (.cons (.call 2 "put_text" (.cons (.var 14 "text" ⟨173, 26, 173, 30⟩) .nil) ⟨173, 17, 173, 25⟩ ⟨173, 17, 173, 31⟩) (.cons (.int 0 0 ⟨173, 33, 173, 34⟩) .nil)) ⟨173, 7, 173, 16⟩ ⟨173, 7, 173, 35⟩) (.tup (.cons (.var 14 "text" ⟨173, 40, 173, 44⟩) (.cons (.bi1 .len (.call 2 "put_text" (.cons (.var 14 "text" ⟨173, 59, 173, 63⟩) .nil) ⟨173, 50, 173, 58⟩ ⟨173, 50, 173, 64⟩) ⟨173, 46, 173, 49⟩ ⟨173, 46, 173, 65⟩) .nil)) 0 ⟨173, 39, 173, 66⟩) ⟨173, 7, 173, 66⟩) (.cons (.cmp .ne (.lenSet (.glb 0 "ALPHABET" ⟨173, 78, 173, 86⟩) ⟨173, 70, 173, 73⟩ ⟨173, 74, 173, 77⟩ ⟨173, 74, 173, 87⟩ ⟨173, 70, 173, 88⟩) (.bi1 .len (.glb 0 "ALPHABET" ⟨173, 96, 173, 104⟩) ⟨173, 92, 173, 95⟩ ⟨173, 92, 173, 105⟩) ⟨173, 70, 173, 105⟩) (.cons (.neL (.listS (.glb 0 "ALPHABET" ⟨173, 114, 173, 122⟩) ⟨173, 109, 173, 113⟩ ⟨173, 109, 173, 123⟩) (.sortS (.glb 0 "ALPHABET" ⟨173, 134, 173, 142⟩) ⟨173, 127, 173, 133⟩ ⟨173, 127, 173, 143⟩) ⟨173, 109, 173, 143⟩) .nil))) ⟨173, 7, 173, 143⟩) (.cons (.ret (.bl false 0 ⟨174, 15, 174, 20⟩) ⟨174, 8, 174, 20⟩) .nil) .nil ⟨173, 4, 174, 20⟩)
def c16_20 : Stm := (.forr (.name ⟨15, "bad", ⟨175, 8, 175, 11⟩⟩) (.a (.tup (.cons (.tup .nil 0 ⟨175, 16, 175, 18⟩) (.cons (.tup (.cons (.int 128 0 ⟨175, 21, 175, 24⟩) .nil) 0 ⟨175, 20, 175, 26⟩) (.cons (.tup (.cons (.int 128 0 ⟨175, 29, 175, 32⟩) (.cons (.int 0 0 ⟨175, 34, 175, 35⟩) .nil)) 0 ⟨175, 28, 175, 36⟩) (.cons (.tup (.cons (.int 4 0 ⟨175, 39, 175, 40⟩) .nil) 0 ⟨175, 38, 175, 42⟩) (.cons (.tup (.cons (.int 2 0 ⟨175, 45, 175, 46⟩) (.cons (.int 3 0 ⟨175, 48, 175, 49⟩) (.cons (.int 1 0 ⟨175, 51, 175, 52⟩) .nil))) 0 ⟨175, 44, 175, 53⟩) (.cons (.tup (.cons (.int 2 0 ⟨175, 56, 175, 57⟩) (.cons (.int 1 0 ⟨175, 59, 175, 60⟩) (.cons (.int 200 0 ⟨175, 62, 175, 65⟩) .nil))) 0 ⟨175, 55, 175, 66⟩) (.cons (.tup (.cons (.int 3 0 ⟨175, 69, 175, 70⟩) (.cons (.int 1 0 ⟨175, 72, 175, 73⟩) .nil)) 0 ⟨175, 68, 175, 74⟩) .nil))))))) 0 ⟨175, 15, 175, 75⟩)) b16_1 ⟨175, 4, 177, 24⟩)
def c16_21 : Stm := (.ifs (.not (.refd 0 "_law_refused" (.call 1 "take_number" (.cons (.tup (.cons (.int 128 0 ⟨178, 45, 178, 48⟩) (.cons (.int 0 0 ⟨178, 50, 178, 51⟩) .nil)) 0 ⟨178, 44, 178, 52⟩) (.cons (.int 0 0 ⟨178, 54, 178, 55⟩) .nil)) ⟨178, 32, 178, 43⟩ ⟨178, 32, 178, 56⟩) sc10 ⟨178, 11, 178, 23⟩ ⟨178, 24, 178, 56⟩ ⟨178, 11, 178, 57⟩) ⟨178, 7, 178, 57⟩) (.cons (.ret (.bl false 0 ⟨179, 15, 179, 20⟩) ⟨179, 8, 179, 20⟩) .nil) .nil ⟨178, 4, 179, 20⟩)
def c16_22 : Stm := (.ifs (.not (.refd 0 "_law_refused" (.call 0 "put_number" (.cons (.bin .sub (.int 0 0 ⟨180, 43, 180, 44⟩) (.int 1 0 ⟨180, 47, 180, 48⟩) ⟨180, 43, 180, 48⟩) .nil) ⟨180, 32, 180, 42⟩ ⟨180, 32, 180, 49⟩) sc9 ⟨180, 11, 180, 23⟩ ⟨180, 24, 180, 49⟩ ⟨180, 11, 180, 50⟩) ⟨180, 7, 180, 50⟩) (.cons (.ret (.bl false 0 ⟨181, 15, 181, 20⟩) ⟨181, 8, 181, 20⟩) .nil) .nil ⟨180, 4, 181, 20⟩)
def c16_23 : Stm := (.asg (.name ⟨17, "deep", ⟨182, 4, 182, 8⟩⟩) (.non 0 ⟨182, 11, 182, 15⟩) ⟨182, 4, 182, 15⟩)
def c16_24 : Stm := (.forr (.name ⟨13, "k", ⟨183, 8, 183, 9⟩⟩) (.r1 (.int 39 0 ⟨183, 19, 183, 21⟩) ⟨183, 13, 183, 18⟩ ⟨183, 13, 183, 22⟩) b16_0 ⟨183, 4, 184, 22⟩)
def c16_25 : Stm := (.ifs (.or (.cons (.cmp .ne (.call 4 "put_thing" (.cons (.var 17 "deep" ⟨185, 17, 185, 21⟩) .nil) ⟨185, 7, 185, 16⟩ ⟨185, 7, 185, 22⟩) (.bin .add (.bin .mul (.tup (.cons (.int 3 0 ⟨185, 27, 185, 28⟩) (.cons (.int 1 0 ⟨185, 30, 185, 31⟩) .nil)) 0 ⟨185, 26, 185, 32⟩) (.int 39 0 ⟨185, 35, 185, 37⟩) ⟨185, 26, 185, 37⟩) (.tup (.cons (.int 0 0 ⟨185, 41, 185, 42⟩) .nil) 0 ⟨185, 40, 185, 44⟩) ⟨185, 26, 185, 44⟩) ⟨185, 7, 185, 44⟩) (.cons (.cmp .ne (.call 6 "take_thing" (.cons (.bin .add (.bin .mul (.tup (.cons (.int 3 0 ⟨185, 60, 185, 61⟩) (.cons (.int 1 0 ⟨185, 63, 185, 64⟩) .nil)) 0 ⟨185, 59, 185, 65⟩) (.int 39 0 ⟨185, 68, 185, 70⟩) ⟨185, 59, 185, 70⟩) (.tup (.cons (.int 0 0 ⟨185, 74, 185, 75⟩) .nil) 0 ⟨185, 73, 185, 77⟩) ⟨185, 59, 185, 77⟩) (.cons (.int 0 0 ⟨185, 79, 185, 80⟩) .nil)) ⟨185, 48, 185, 58⟩ ⟨185, 48, 185, 81⟩) (.tup (.cons (.var 17 "deep" ⟨185, 86, 185, 90⟩) (.cons (.int 79 0 ⟨185, 92, 185, 94⟩) .nil)) 0 ⟨185, 85, 185, 95⟩) ⟨185, 48, 185, 95⟩) .nil)) ⟨185, 7, 185, 95⟩) (.cons (.ret (.bl false 0 ⟨186, 15, 186, 20⟩) ⟨186, 8, 186, 20⟩) .nil) .nil ⟨185, 4, 186, 20⟩)
def c16_26 : Stm := (.asg (.name ⟨18, "far", ⟨187, 4, 187, 7⟩⟩) (.bin .add (.bin .mul (.tup (.cons (.int 3 0 ⟨187, 11, 187, 12⟩) (.cons (.int 1 0 ⟨187, 14, 187, 15⟩) .nil)) 0 ⟨187, 10, 187, 16⟩) (.bin .add (.int 40 0 ⟨187, 20, 187, 22⟩) (.call 12 "_law_take" (.cons (.var 1 "tape" ⟨187, 35, 187, 39⟩) (.cons (.int 3000 0 ⟨187, 41, 187, 45⟩) .nil)) ⟨187, 25, 187, 34⟩ ⟨187, 25, 187, 46⟩) ⟨187, 20, 187, 46⟩) ⟨187, 10, 187, 47⟩) (.tup (.cons (.int 0 0 ⟨187, 51, 187, 52⟩) .nil) 0 ⟨187, 50, 187, 54⟩) ⟨187, 10, 187, 54⟩) ⟨187, 4, 187, 54⟩)
def c16_27 : Stm := (.ifs (.not (.refd 0 "_law_refused" (.call 4 "put_thing" (.cons (.tup (.cons (.var 17 "deep" ⟨188, 43, 188, 47⟩) .nil) 0 ⟨188, 42, 188, 49⟩) .nil) ⟨188, 32, 188, 41⟩ ⟨188, 32, 188, 50⟩) sc8 ⟨188, 11, 188, 23⟩ ⟨188, 24, 188, 50⟩ ⟨188, 11, 188, 51⟩) ⟨188, 7, 188, 51⟩) (.cons (.ret (.bl false 0 ⟨189, 15, 189, 20⟩) ⟨189, 8, 189, 20⟩) .nil) .nil ⟨188, 4, 189, 20⟩)
def c16_28 : Stm := (.ifs (.not (.refd 0 "_law_refused" (.call 6 "take_thing" (.cons (.var 18 "far" ⟨190, 43, 190, 46⟩) (.cons (.int 0 0 ⟨190, 48, 190, 49⟩) .nil)) ⟨190, 32, 190, 42⟩ ⟨190, 32, 190, 50⟩) sc7 ⟨190, 11, 190, 23⟩ ⟨190, 24, 190, 50⟩ ⟨190, 11, 190, 51⟩) ⟨190, 7, 190, 51⟩) (.cons (.ret (.bl false 0 ⟨191, 15, 191, 20⟩) ⟨191, 8, 191, 20⟩) .nil) .nil ⟨190, 4, 191, 20⟩)
def c16_29 : Stm := (.ret (.refd 0 "_law_refused" (.call 2 "put_text" (.cons (.str "\n" 0 ⟨192, 41, 192, 45⟩) .nil) ⟨192, 32, 192, 40⟩ ⟨192, 32, 192, 46⟩) sc6 ⟨192, 11, 192, 23⟩ ⟨192, 24, 192, 46⟩ ⟨192, 11, 192, 47⟩) ⟨192, 4, 192, 47⟩)
def r16_30 : Stms := .nil
def r16_29 : Stms := .cons c16_29 r16_30
def r16_28 : Stms := .cons c16_28 r16_29
def r16_27 : Stms := .cons c16_27 r16_28
def r16_26 : Stms := .cons c16_26 r16_27
def r16_25 : Stms := .cons c16_25 r16_26
def r16_24 : Stms := .cons c16_24 r16_25
def r16_23 : Stms := .cons c16_23 r16_24
def r16_22 : Stms := .cons c16_22 r16_23
def r16_21 : Stms := .cons c16_21 r16_22
def r16_20 : Stms := .cons c16_20 r16_21
def r16_19 : Stms := .cons c16_19 r16_20
def r16_18 : Stms := .cons c16_18 r16_19
def r16_17 : Stms := .cons c16_17 r16_18
def r16_16 : Stms := .cons c16_16 r16_17
def r16_15 : Stms := .cons c16_15 r16_16
def r16_14 : Stms := .cons c16_14 r16_15
def r16_13 : Stms := .cons c16_13 r16_14
def r16_12 : Stms := .cons c16_12 r16_13
def r16_11 : Stms := .cons c16_11 r16_12
def r16_10 : Stms := .cons c16_10 r16_11
def r16_9 : Stms := .cons c16_9 r16_10
def r16_8 : Stms := .cons c16_8 r16_9
def r16_7 : Stms := .cons c16_7 r16_8
def r16_6 : Stms := .cons c16_6 r16_7
def r16_5 : Stms := .cons c16_5 r16_6
def r16_4 : Stms := .cons c16_4 r16_5
def r16_3 : Stms := .cons c16_3 r16_4
def r16_2 : Stms := .cons c16_2 r16_3
def r16_1 : Stms := .cons c16_1 r16_2
def r16_0 : Stms := .cons c16_0 r16_1
theorem r16_eq : b16 = r16_0 := rfl
theorem r16_at0 {P : Par} {ρ : Ro} {H : Hq} : r16_0.ev P ρ H = (c16_0.ev P ρ H).seq (r16_1.ev P) := rfl
theorem r16_at1 {P : Par} {ρ : Ro} {H : Hq} : r16_1.ev P ρ H = (c16_1.ev P ρ H).seq (r16_2.ev P) := rfl
theorem r16_at2 {P : Par} {ρ : Ro} {H : Hq} : r16_2.ev P ρ H = (c16_2.ev P ρ H).seq (r16_3.ev P) := rfl
theorem r16_at3 {P : Par} {ρ : Ro} {H : Hq} : r16_3.ev P ρ H = (c16_3.ev P ρ H).seq (r16_4.ev P) := rfl
theorem r16_at4 {P : Par} {ρ : Ro} {H : Hq} : r16_4.ev P ρ H = (c16_4.ev P ρ H).seq (r16_5.ev P) := rfl
theorem r16_at5 {P : Par} {ρ : Ro} {H : Hq} : r16_5.ev P ρ H = (c16_5.ev P ρ H).seq (r16_6.ev P) := rfl
theorem r16_at6 {P : Par} {ρ : Ro} {H : Hq} : r16_6.ev P ρ H = (c16_6.ev P ρ H).seq (r16_7.ev P) := rfl
theorem r16_at7 {P : Par} {ρ : Ro} {H : Hq} : r16_7.ev P ρ H = (c16_7.ev P ρ H).seq (r16_8.ev P) := rfl
theorem r16_at8 {P : Par} {ρ : Ro} {H : Hq} : r16_8.ev P ρ H = (c16_8.ev P ρ H).seq (r16_9.ev P) := rfl
theorem r16_at9 {P : Par} {ρ : Ro} {H : Hq} : r16_9.ev P ρ H = (c16_9.ev P ρ H).seq (r16_10.ev P) := rfl
theorem r16_at10 {P : Par} {ρ : Ro} {H : Hq} : r16_10.ev P ρ H = (c16_10.ev P ρ H).seq (r16_11.ev P) := rfl
theorem r16_at11 {P : Par} {ρ : Ro} {H : Hq} : r16_11.ev P ρ H = (c16_11.ev P ρ H).seq (r16_12.ev P) := rfl
theorem r16_at12 {P : Par} {ρ : Ro} {H : Hq} : r16_12.ev P ρ H = (c16_12.ev P ρ H).seq (r16_13.ev P) := rfl
theorem r16_at13 {P : Par} {ρ : Ro} {H : Hq} : r16_13.ev P ρ H = (c16_13.ev P ρ H).seq (r16_14.ev P) := rfl
theorem r16_at14 {P : Par} {ρ : Ro} {H : Hq} : r16_14.ev P ρ H = (c16_14.ev P ρ H).seq (r16_15.ev P) := rfl
theorem r16_at15 {P : Par} {ρ : Ro} {H : Hq} : r16_15.ev P ρ H = (c16_15.ev P ρ H).seq (r16_16.ev P) := rfl
theorem r16_at16 {P : Par} {ρ : Ro} {H : Hq} : r16_16.ev P ρ H = (c16_16.ev P ρ H).seq (r16_17.ev P) := rfl
theorem r16_at17 {P : Par} {ρ : Ro} {H : Hq} : r16_17.ev P ρ H = (c16_17.ev P ρ H).seq (r16_18.ev P) := rfl
theorem r16_at18 {P : Par} {ρ : Ro} {H : Hq} : r16_18.ev P ρ H = (c16_18.ev P ρ H).seq (r16_19.ev P) := rfl
theorem r16_at19 {P : Par} {ρ : Ro} {H : Hq} : r16_19.ev P ρ H = (c16_19.ev P ρ H).seq (r16_20.ev P) := rfl
theorem r16_at20 {P : Par} {ρ : Ro} {H : Hq} : r16_20.ev P ρ H = (c16_20.ev P ρ H).seq (r16_21.ev P) := rfl
theorem r16_at21 {P : Par} {ρ : Ro} {H : Hq} : r16_21.ev P ρ H = (c16_21.ev P ρ H).seq (r16_22.ev P) := rfl
theorem r16_at22 {P : Par} {ρ : Ro} {H : Hq} : r16_22.ev P ρ H = (c16_22.ev P ρ H).seq (r16_23.ev P) := rfl
theorem r16_at23 {P : Par} {ρ : Ro} {H : Hq} : r16_23.ev P ρ H = (c16_23.ev P ρ H).seq (r16_24.ev P) := rfl
theorem r16_at24 {P : Par} {ρ : Ro} {H : Hq} : r16_24.ev P ρ H = (c16_24.ev P ρ H).seq (r16_25.ev P) := rfl
theorem r16_at25 {P : Par} {ρ : Ro} {H : Hq} : r16_25.ev P ρ H = (c16_25.ev P ρ H).seq (r16_26.ev P) := rfl
theorem r16_at26 {P : Par} {ρ : Ro} {H : Hq} : r16_26.ev P ρ H = (c16_26.ev P ρ H).seq (r16_27.ev P) := rfl
theorem r16_at27 {P : Par} {ρ : Ro} {H : Hq} : r16_27.ev P ρ H = (c16_27.ev P ρ H).seq (r16_28.ev P) := rfl
theorem r16_at28 {P : Par} {ρ : Ro} {H : Hq} : r16_28.ev P ρ H = (c16_28.ev P ρ H).seq (r16_29.ev P) := rfl
theorem r16_at29 {P : Par} {ρ : Ro} {H : Hq} : r16_29.ev P ρ H = (c16_29.ev P ρ H).seq (r16_30.ev P) := rfl
end K01
end
section
set_option Elab.async false
set_option linter.all false
set_option maxRecDepth 100000
set_option maxHeartbeats 1000000
/-! k01: the law's walk, its last statements. -/
namespace K01
open PySem Lt
def Good (r : RS) : Prop := ∃ H', r = .rt (.bl true) H'
theorem Good_seq {r : RS} {f : Ro → Hq → RS} {ρ : Ro} {H : Hq} (h : r = .nx ρ H) (hg : Good (f ρ H)) : Good (r.seq f) := by
  rw [h]
  exact hg
theorem v_refd {k : Nat} {a : Sx E} {ρ : Ro} {H : Hq} : sRefd (Pn k) 0 a ρ H = (match a ρ H with
  | .ok _ G1 => .ok (.bl false) G1
  | .ex c G1 => if (Pn k).rf 0 c = true then .ok (.bl true) G1 else .bad
  | .bad => .bad) := rfl
section
variable {H : Hq} {s0 s1 s2 s3 s4 s5 s6 s7 s8 s9 s10 s11 s12 s13 s14 s15 s16 s17 s18 s19 s20 s21 : Option E}
theorem nl_signs : signs ("\n" : Str) = [E.str ⟨#[10]⟩] := by
  have : ("\n" : Str).cps = #[10] := by decide +kernel
  unfold signs
  rw [this]
  rfl
theorem nl_in : inSE (.str ⟨#[10]⟩) (.str AL) = some false := by decide +kernel
theorem put_text_ex {k : Nat} : (Pn (k + 1)).cl 2 [.str "\n"] H = .ex 0 H := by
  rw [par_cl, cl_succ (fn := f2) rfl rfl]
  show endR true H (b2.ev (Pn k) [some (.str "\n"), none, none] H) = _
  have hi : itE H (.str "\n") = some ([E.str ⟨#[10]⟩], none) := by
    show some (signs ("\n" : Str), (none : Option Nat)) = _
    rw [nl_signs]
  have e1 : lcS none [E.str ⟨#[10]⟩] (.name ⟨2, "sign", ⟨28, 37, 28, 41⟩⟩) sYes (b2_1.ev (Pn k)) [some (.str "\n"), none, none] [E.str ⟨#[10]⟩] [] H = .ok [.bl false] H := by
    rw [lc_turn (ρ1 := [some (.str "\n"), none, some (E.str ⟨#[10]⟩)]) (y := .bl false) (H2 := H) rfl rfl rfl (by
      have hin := nl_in
      simp -implicitDefEqProofs only [Stms.ev, Stm.ev, Ex.ev, Ex.evT, Exs.ev, Exs.evAnd, Exs.evOr, Exs.evTAnd, Exs.evTOr, Ox.ev, Ox.evT, Lx.ev, It.ev, v_c, v_bin, v_cmp, v_bl, v_isN, v_ntN, v_not, v_tru, v_asB, v_and, v_or, v_if, v_tup, v_nil, v_cons, v_sub, v_onone, v_osome, v_slice, v_call, v_glb, v_ofE, v_disp, v_cat, v_bi1, v_biL, v_isi, v_inS, v_sidx, v_join, v_subL, v_new, v_dct, v_lenSet, v_yes, v_itL, v_itA, v_itR1, v_itR2, v_lc, q_v_asg, q_v_par, q_v_setD, q_v_expr, q_v_app, q_v_if, q_v_for, q_v_ret, o_add, o_sub, c_lt, c_le, c_gt, c_ge, a_add, R.bind_ok, R.bind_ex, R.bind_bad, R.st_ok, R.st_ex, R.st_bad, RS.seq_nx, RS.seq_rt, RS.seq_ex, RS.seq_bk, RS.seq_ct, RS.seq_bad, optR_some, optR_none, Tg.set, setAll, asB, Lt.truthy, isNon, biLE, getL_tmp, getM_tmp, Option.isSome_some, reduceIte, if_true, if_false, Bool.false_eq_true, Option.map_some, w0, w1, w2, w3, w4, w5, w6, w7, w8, w9, w10, w11, w12, w13, w14, w15, w16, w17, w18, w19, w20, w21, w22, w23, w24, x0, x1, x2, x3, x4, x5, x6, x7, x8, x9, x10, x11, x12, x13, x14, x15, x16, x17, x18, x19, x20, x21, x22, x23, x24, z0, z1, z2, z3, z4, z5, z6, z7, z8, z9, z10, z11, z12, z13, z14, z15, z16, z17, z18, z19, z20, z21, z22, z23, z24, y0, y1, y2, y3, y4, y5, y6, y7, y8, y9, y10, y11, y12, y13, y14, y15, y16, y17, y18, y19, y20, y21, y22, y23, y24, b2_1, glb0, hin]) (by simp), lc_end rfl]
    rfl
  have ha : asBs [E.bl false] = some [false] := rfl
  have ha2 : ([false] : List Bool).all id = false := rfl
  have e : b2.ev (Pn k) [some (.str "\n"), none, none] H = .ex 0 [some (.str "\n"), none, none] H := by
    simp -implicitDefEqProofs only [Stms.ev, Stm.ev, Ex.ev, Ex.evT, Exs.ev, Exs.evAnd, Exs.evOr, Exs.evTAnd, Exs.evTOr, Ox.ev, Ox.evT, Lx.ev, It.ev, v_c, v_bin, v_cmp, v_bl, v_isN, v_ntN, v_not, v_tru, v_asB, v_and, v_or, v_if, v_tup, v_nil, v_cons, v_sub, v_onone, v_osome, v_slice, v_call, v_glb, v_ofE, v_disp, v_cat, v_bi1, v_biL, v_isi, v_inS, v_sidx, v_join, v_subL, v_new, v_dct, v_lenSet, v_yes, v_itL, v_itA, v_itR1, v_itR2, v_lc, q_v_asg, q_v_par, q_v_setD, q_v_expr, q_v_app, q_v_if, q_v_for, q_v_ret, o_add, o_sub, c_lt, c_le, c_gt, c_ge, a_add, R.bind_ok, R.bind_ex, R.bind_bad, R.st_ok, R.st_ex, R.st_bad, RS.seq_nx, RS.seq_rt, RS.seq_ex, RS.seq_bk, RS.seq_ct, RS.seq_bad, optR_some, optR_none, Tg.set, setAll, asB, Lt.truthy, isNon, biLE, getL_tmp, getM_tmp, Option.isSome_some, reduceIte, if_true, if_false, Bool.false_eq_true, Option.map_some, w0, w1, w2, w3, w4, w5, w6, w7, w8, w9, w10, w11, w12, w13, w14, w15, w16, w17, w18, w19, w20, w21, w22, w23, w24, x0, x1, x2, x3, x4, x5, x6, x7, x8, x9, x10, x11, x12, x13, x14, x15, x16, x17, x18, x19, x20, x21, x22, x23, x24, z0, z1, z2, z3, z4, z5, z6, z7, z8, z9, z10, z11, z12, z13, z14, z15, z16, z17, z18, z19, z20, z21, z22, z23, z24, y0, y1, y2, y3, y4, y5, y6, y7, y8, y9, y10, y11, y12, y13, y14, y15, y16, y17, y18, y19, y20, y21, y22, y23, y24, b2, wipeR, hi, e1, List.map_cons, List.map_nil, ha, ha2, Bool.not_false]
  rw [e]
  rfl
theorem t29 : Good (r16_29.ev (Pn 60) [s0, s1, s2, s3, s4, s5, s6, s7, s8, s9, s10, s11, s12, s13, s14, s15, s16, s17, s18, s19, s20, s21] H) := by
  have h : (Pn 60).cl 2 [.str "\n"] H = .ex 0 H := put_text_ex (k := 59)
  rw [r16_at29]
  refine ⟨H, ?_⟩
  have e : c16_29.ev (Pn 60) [s0, s1, s2, s3, s4, s5, s6, s7, s8, s9, s10, s11, s12, s13, s14, s15, s16, s17, s18, s19, s20, s21] H = .rt (.bl true) H := by
    simp -implicitDefEqProofs only [Stms.ev, Stm.ev, Ex.ev, Ex.evT, Exs.ev, Exs.evAnd, Exs.evOr, Exs.evTAnd, Exs.evTOr, Ox.ev, Ox.evT, Lx.ev, It.ev, v_c, v_bin, v_cmp, v_bl, v_isN, v_ntN, v_not, v_tru, v_asB, v_and, v_or, v_if, v_tup, v_nil, v_cons, v_sub, v_onone, v_osome, v_slice, v_call, v_glb, v_ofE, v_disp, v_cat, v_bi1, v_biL, v_isi, v_inS, v_sidx, v_join, v_subL, v_new, v_dct, v_lenSet, v_yes, v_itL, v_itA, v_itR1, v_itR2, v_lc, q_v_asg, q_v_par, q_v_setD, q_v_expr, q_v_app, q_v_if, q_v_for, q_v_ret, o_add, o_sub, c_lt, c_le, c_gt, c_ge, a_add, R.bind_ok, R.bind_ex, R.bind_bad, R.st_ok, R.st_ex, R.st_bad, RS.seq_nx, RS.seq_rt, RS.seq_ex, RS.seq_bk, RS.seq_ct, RS.seq_bad, optR_some, optR_none, Tg.set, setAll, asB, Lt.truthy, isNon, biLE, getL_tmp, getM_tmp, Option.isSome_some, reduceIte, if_true, if_false, Bool.false_eq_true, Option.map_some, w0, w1, w2, w3, w4, w5, w6, w7, w8, w9, w10, w11, w12, w13, w14, w15, w16, w17, w18, w19, w20, w21, w22, w23, w24, x0, x1, x2, x3, x4, x5, x6, x7, x8, x9, x10, x11, x12, x13, x14, x15, x16, x17, x18, x19, x20, x21, x22, x23, x24, z0, z1, z2, z3, z4, z5, z6, z7, z8, z9, z10, z11, z12, z13, z14, z15, z16, z17, z18, z19, z20, z21, z22, z23, z24, y0, y1, y2, y3, y4, y5, y6, y7, y8, y9, y10, y11, y12, y13, y14, y15, y16, y17, y18, y19, y20, y21, y22, y23, y24, c16_29, v_refd, h, rf00]
  rw [e]
  rfl
theorem t28 {m : Nat} (h1 : 40 ≤ m) (h2 : m ≤ 3039) : Good (r16_28.ev (Pn 60) [s0, s1, s2, s3, s4, s5, s6, s7, s8, s9, s10, s11, s12, s13, s14, s15, s16, s17, some (.tup (nats ((List.replicate m [3, 1]).flatten ++ [0]))), s19, s20, s21] H) := by
  obtain ⟨J, h⟩ := thing_ex (k := 58) (row := (List.replicate m [3, 1]).flatten ++ [0]) (H := H) (by omega) (by rw [List.length_append, rows_len]; simp; omega) (dec_deep 40 m [0] h1) (rows_Sh m)
  have h : (Pn 60).cl 6 [.tup (nats ((List.replicate m [3, 1]).flatten ++ [0])), .int 0] H = .ex 0 (H ++ J) := h
  rw [r16_at28]
  refine Good_seq (ρ := [s0, s1, s2, s3, s4, s5, s6, s7, s8, s9, s10, s11, s12, s13, s14, s15, s16, s17, some (.tup (nats ((List.replicate m [3, 1]).flatten ++ [0]))), s19, s20, s21]) (H := H ++ J) ?_ t29
  simp -implicitDefEqProofs only [Stms.ev, Stm.ev, Ex.ev, Ex.evT, Exs.ev, Exs.evAnd, Exs.evOr, Exs.evTAnd, Exs.evTOr, Ox.ev, Ox.evT, Lx.ev, It.ev, v_c, v_bin, v_cmp, v_bl, v_isN, v_ntN, v_not, v_tru, v_asB, v_and, v_or, v_if, v_tup, v_nil, v_cons, v_sub, v_onone, v_osome, v_slice, v_call, v_glb, v_ofE, v_disp, v_cat, v_bi1, v_biL, v_isi, v_inS, v_sidx, v_join, v_subL, v_new, v_dct, v_lenSet, v_yes, v_itL, v_itA, v_itR1, v_itR2, v_lc, q_v_asg, q_v_par, q_v_setD, q_v_expr, q_v_app, q_v_if, q_v_for, q_v_ret, o_add, o_sub, c_lt, c_le, c_gt, c_ge, a_add, R.bind_ok, R.bind_ex, R.bind_bad, R.st_ok, R.st_ex, R.st_bad, RS.seq_nx, RS.seq_rt, RS.seq_ex, RS.seq_bk, RS.seq_ct, RS.seq_bad, optR_some, optR_none, Tg.set, setAll, asB, Lt.truthy, isNon, biLE, getL_tmp, getM_tmp, Option.isSome_some, reduceIte, if_true, if_false, Bool.false_eq_true, Option.map_some, w0, w1, w2, w3, w4, w5, w6, w7, w8, w9, w10, w11, w12, w13, w14, w15, w16, w17, w18, w19, w20, w21, w22, w23, w24, x0, x1, x2, x3, x4, x5, x6, x7, x8, x9, x10, x11, x12, x13, x14, x15, x16, x17, x18, x19, x20, x21, x22, x23, x24, z0, z1, z2, z3, z4, z5, z6, z7, z8, z9, z10, z11, z12, z13, z14, z15, z16, z17, z18, z19, z20, z21, z22, z23, z24, y0, y1, y2, y3, y4, y5, y6, y7, y8, y9, y10, y11, y12, y13, y14, y15, y16, y17, y18, y19, y20, y21, y22, y23, y24, c16_28, v_refd, h, rf00, Bool.not_true]
theorem dp_e (n : Nat) : (dp (n + 1)).e = .tup [(dp n).e] := by
  conv => lhs; unfold dp Th.e Th.es Th.es
theorem t27 {m : Nat} (h1 : 40 ≤ m) (h2 : m ≤ 3039) : Good (r16_27.ev (Pn 60) [s0, s1, s2, s3, s4, s5, s6, s7, s8, s9, s10, s11, s12, s13, s14, s15, s16, some ((dp 39).e), some (.tup (nats ((List.replicate m [3, 1]).flatten ++ [0]))), s19, s20, s21] H) := by
  have h := put_thing_ex (k := 58) (n := 40) (H := H) (by omega) (by omega)
  rw [dp_e] at h
  have h : (Pn 60).cl 4 [.tup [(dp 39).e]] H = .ex 0 H := h
  have s1' : ∀ x : E, [x].length ≤ sizeLine := fun x => le_line (by simp)
  rw [r16_at27]
  refine Good_seq (ρ := [s0, s1, s2, s3, s4, s5, s6, s7, s8, s9, s10, s11, s12, s13, s14, s15, s16, some ((dp 39).e), some (.tup (nats ((List.replicate m [3, 1]).flatten ++ [0]))), s19, s20, s21]) (H := H) ?_ (t28 h1 h2)
  simp -implicitDefEqProofs only [Stms.ev, Stm.ev, Ex.ev, Ex.evT, Exs.ev, Exs.evAnd, Exs.evOr, Exs.evTAnd, Exs.evTOr, Ox.ev, Ox.evT, Lx.ev, It.ev, v_c, v_bin, v_cmp, v_bl, v_isN, v_ntN, v_not, v_tru, v_asB, v_and, v_or, v_if, v_tup, v_nil, v_cons, v_sub, v_onone, v_osome, v_slice, v_call, v_glb, v_ofE, v_disp, v_cat, v_bi1, v_biL, v_isi, v_inS, v_sidx, v_join, v_subL, v_new, v_dct, v_lenSet, v_yes, v_itL, v_itA, v_itR1, v_itR2, v_lc, q_v_asg, q_v_par, q_v_setD, q_v_expr, q_v_app, q_v_if, q_v_for, q_v_ret, o_add, o_sub, c_lt, c_le, c_gt, c_ge, a_add, R.bind_ok, R.bind_ex, R.bind_bad, R.st_ok, R.st_ex, R.st_bad, RS.seq_nx, RS.seq_rt, RS.seq_ex, RS.seq_bk, RS.seq_ct, RS.seq_bad, optR_some, optR_none, Tg.set, setAll, asB, Lt.truthy, isNon, biLE, getL_tmp, getM_tmp, Option.isSome_some, reduceIte, if_true, if_false, Bool.false_eq_true, Option.map_some, w0, w1, w2, w3, w4, w5, w6, w7, w8, w9, w10, w11, w12, w13, w14, w15, w16, w17, w18, w19, w20, w21, w22, w23, w24, x0, x1, x2, x3, x4, x5, x6, x7, x8, x9, x10, x11, x12, x13, x14, x15, x16, x17, x18, x19, x20, x21, x22, x23, x24, z0, z1, z2, z3, z4, z5, z6, z7, z8, z9, z10, z11, z12, z13, z14, z15, z16, z17, z18, z19, z20, z21, z22, z23, z24, y0, y1, y2, y3, y4, y5, y6, y7, y8, y9, y10, y11, y12, y13, y14, y15, y16, y17, y18, y19, y20, y21, y22, y23, y24, c16_27, v_refd, h, rf00, Bool.not_true, s1']
theorem rows_mul {d : Nat} (h : d ≤ 3000) : binop .mul (.tup [E.int 3, E.int 1]) (.int (40 + (d : Int))) = some (.tup (nats (List.replicate (40 + d) [3, 1]).flatten)) := by
  rw [o_mulT ⟨by simp, by omega, by omega, by simp⟩, ← rows_nats]
  congr 4
theorem rows_add {m : Nat} (h : m ≤ 3040) : binop .add (.tup (nats (List.replicate m [3, 1]).flatten)) (.tup [E.int 0]) = some (.tup (nats ((List.replicate m [3, 1]).flatten ++ [0]))) := by
  rw [o_addT (by rw [nats_len, rows_len]; simp; omega), nats_app]
  rfl
theorem t26 (hT : IsT 2 H) : Good (r16_26.ev (Pn 60) [s0, some (.ref 2), s2, s3, s4, s5, s6, s7, s8, s9, s10, s11, s12, s13, s14, s15, s16, some ((dp 39).e), s18, s19, s20, s21] H) := by
  obtain ⟨d, H2, h, p, hd⟩ := tk (k := 59) (t := 2) (m := 3000) hT (by omega) (by omega)
  have h : (Pn 60).cl 12 [.ref 2, .int 3000] H = .ok (.int (d : Int)) H2 := h
  have s2' : ∀ x y : E, [x, y].length ≤ sizeLine := fun x y => le_line (by simp)
  have s1' : ∀ x : E, [x].length ≤ sizeLine := fun x => le_line (by simp)
  have hm := rows_mul (d := d) (by omega)
  have ha := rows_add (m := 40 + d) (by omega)
  rw [r16_at26]
  refine Good_seq (ρ := [s0, some (.ref 2), s2, s3, s4, s5, s6, s7, s8, s9, s10, s11, s12, s13, s14, s15, s16, some ((dp 39).e), some (.tup (nats ((List.replicate (40 + d) [3, 1]).flatten ++ [0]))), s19, s20, s21]) (H := H2) ?_ (t27 (by omega) (by omega))
  simp -implicitDefEqProofs only [Stms.ev, Stm.ev, Ex.ev, Ex.evT, Exs.ev, Exs.evAnd, Exs.evOr, Exs.evTAnd, Exs.evTOr, Ox.ev, Ox.evT, Lx.ev, It.ev, v_c, v_bin, v_cmp, v_bl, v_isN, v_ntN, v_not, v_tru, v_asB, v_and, v_or, v_if, v_tup, v_nil, v_cons, v_sub, v_onone, v_osome, v_slice, v_call, v_glb, v_ofE, v_disp, v_cat, v_bi1, v_biL, v_isi, v_inS, v_sidx, v_join, v_subL, v_new, v_dct, v_lenSet, v_yes, v_itL, v_itA, v_itR1, v_itR2, v_lc, q_v_asg, q_v_par, q_v_setD, q_v_expr, q_v_app, q_v_if, q_v_for, q_v_ret, o_add, o_sub, c_lt, c_le, c_gt, c_ge, a_add, R.bind_ok, R.bind_ex, R.bind_bad, R.st_ok, R.st_ex, R.st_bad, RS.seq_nx, RS.seq_rt, RS.seq_ex, RS.seq_bk, RS.seq_ct, RS.seq_bad, optR_some, optR_none, Tg.set, setAll, asB, Lt.truthy, isNon, biLE, getL_tmp, getM_tmp, Option.isSome_some, reduceIte, if_true, if_false, Bool.false_eq_true, Option.map_some, w0, w1, w2, w3, w4, w5, w6, w7, w8, w9, w10, w11, w12, w13, w14, w15, w16, w17, w18, w19, w20, w21, w22, w23, w24, x0, x1, x2, x3, x4, x5, x6, x7, x8, x9, x10, x11, x12, x13, x14, x15, x16, x17, x18, x19, x20, x21, x22, x23, x24, z0, z1, z2, z3, z4, z5, z6, z7, z8, z9, z10, z11, z12, z13, z14, z15, z16, z17, z18, z19, z20, z21, z22, z23, z24, y0, y1, y2, y3, y4, y5, y6, y7, y8, y9, y10, y11, y12, y13, y14, y15, y16, y17, y18, y19, y20, y21, y22, y23, y24, c16_26, h, s1', s2', hm, ha]
theorem dp_len : ((List.replicate 39 [3, 1]).flatten ++ [0] : List Nat).length = 79 := by rw [List.length_append, rows_len]; rfl
theorem t25 (hT : IsT 2 H) : Good (r16_25.ev (Pn 60) [s0, some (.ref 2), s2, s3, s4, s5, s6, s7, s8, s9, s10, s11, s12, s13, s14, s15, s16, some ((dp 39).e), s18, s19, s20, s21] H) := by
  have h1 := put_thing_ok (k := 58) (th := dp 39) (H := H) (by rw [dp_dep]; omega) (by omega) (dp_fit 39) (by rw [dp_enc, dp_len]; omega)
  rw [dp_enc] at h1
  have h1 : (Pn 60).cl 4 [(dp 39).e] H = .ok (.tup (nats ((List.replicate 39 [3, 1]).flatten ++ [0]))) H := h1
  have h2 := thing_okN (k := 58) (at0 := 0) (row := (List.replicate 39 [3, 1]).flatten ++ [0]) (l := []) (x := dp 39) (H := H) (by omega) (by rw [dp_len]; omega) (by omega) (by
    have := dec_enc (dp 39) 40 [] (by rw [dp_dep]; omega) (dp_fit 39)
    rw [List.append_nil, dp_enc] at this
    exact this) (rows_Sh 39)
  rw [dp_len] at h2
  have h2 : (Pn 60).cl 6 [.tup (nats ((List.replicate 39 [3, 1]).flatten ++ [0])), .int 0] H = .ok (.tup [(dp 39).e, .int 79]) H := h2
  have s2' : ∀ x y : E, [x, y].length ≤ sizeLine := fun x y => le_line (by simp)
  have s1' : ∀ x : E, [x].length ≤ sizeLine := fun x => le_line (by simp)
  have hm : binop .mul (.tup [E.int 3, E.int 1]) (.int 39) = some (.tup (nats (List.replicate 39 [3, 1]).flatten)) := by
    rw [o_mulT ⟨by simp, by omega, by omega, by simp⟩, ← rows_nats]
    rfl
  have ha := rows_add (m := 39) (by omega)
  have n1 := ne_nats (l := (List.replicate 39 [3, 1]).flatten ++ [0])
  have n2 := ne_pair (x := dp 39) (n := 79) (by rw [dp_dep]; omega)
  rw [r16_at25]
  refine Good_seq (ρ := [s0, some (.ref 2), s2, s3, s4, s5, s6, s7, s8, s9, s10, s11, s12, s13, s14, s15, s16, some ((dp 39).e), s18, s19, s20, s21]) (H := H) ?_ (t26 hT)
  simp -implicitDefEqProofs only [Stms.ev, Stm.ev, Ex.ev, Ex.evT, Exs.ev, Exs.evAnd, Exs.evOr, Exs.evTAnd, Exs.evTOr, Ox.ev, Ox.evT, Lx.ev, It.ev, v_c, v_bin, v_cmp, v_bl, v_isN, v_ntN, v_not, v_tru, v_asB, v_and, v_or, v_if, v_tup, v_nil, v_cons, v_sub, v_onone, v_osome, v_slice, v_call, v_glb, v_ofE, v_disp, v_cat, v_bi1, v_biL, v_isi, v_inS, v_sidx, v_join, v_subL, v_new, v_dct, v_lenSet, v_yes, v_itL, v_itA, v_itR1, v_itR2, v_lc, q_v_asg, q_v_par, q_v_setD, q_v_expr, q_v_app, q_v_if, q_v_for, q_v_ret, o_add, o_sub, c_lt, c_le, c_gt, c_ge, a_add, R.bind_ok, R.bind_ex, R.bind_bad, R.st_ok, R.st_ex, R.st_bad, RS.seq_nx, RS.seq_rt, RS.seq_ex, RS.seq_bk, RS.seq_ct, RS.seq_bad, optR_some, optR_none, Tg.set, setAll, asB, Lt.truthy, isNon, biLE, getL_tmp, getM_tmp, Option.isSome_some, reduceIte, if_true, if_false, Bool.false_eq_true, Option.map_some, w0, w1, w2, w3, w4, w5, w6, w7, w8, w9, w10, w11, w12, w13, w14, w15, w16, w17, w18, w19, w20, w21, w22, w23, w24, x0, x1, x2, x3, x4, x5, x6, x7, x8, x9, x10, x11, x12, x13, x14, x15, x16, x17, x18, x19, x20, x21, x22, x23, x24, z0, z1, z2, z3, z4, z5, z6, z7, z8, z9, z10, z11, z12, z13, z14, z15, z16, z17, z18, z19, z20, z21, z22, z23, z24, y0, y1, y2, y3, y4, y5, y6, y7, y8, y9, y10, y11, y12, y13, y14, y15, y16, y17, y18, y19, y20, y21, y22, y23, y24, c16_25, h1, h2, s1', s2', hm, ha, n1, n2]
theorem deep_turn {m : Nat} : b16_0.ev (Pn 60) [s0, s1, s2, s3, s4, s5, s6, s7, s8, s9, s10, s11, s12, s13, s14, s15, s16, some ((dp m).e), s18, s19, s20, s21] H = .nx [s0, s1, s2, s3, s4, s5, s6, s7, s8, s9, s10, s11, s12, s13, s14, s15, s16, some ((dp (m + 1)).e), s18, s19, s20, s21] H := by
  have s1' : ∀ x : E, [x].length ≤ sizeLine := fun x => le_line (by simp)
  rw [dp_e]
  simp -implicitDefEqProofs only [Stms.ev, Stm.ev, Ex.ev, Ex.evT, Exs.ev, Exs.evAnd, Exs.evOr, Exs.evTAnd, Exs.evTOr, Ox.ev, Ox.evT, Lx.ev, It.ev, v_c, v_bin, v_cmp, v_bl, v_isN, v_ntN, v_not, v_tru, v_asB, v_and, v_or, v_if, v_tup, v_nil, v_cons, v_sub, v_onone, v_osome, v_slice, v_call, v_glb, v_ofE, v_disp, v_cat, v_bi1, v_biL, v_isi, v_inS, v_sidx, v_join, v_subL, v_new, v_dct, v_lenSet, v_yes, v_itL, v_itA, v_itR1, v_itR2, v_lc, q_v_asg, q_v_par, q_v_setD, q_v_expr, q_v_app, q_v_if, q_v_for, q_v_ret, o_add, o_sub, c_lt, c_le, c_gt, c_ge, a_add, R.bind_ok, R.bind_ex, R.bind_bad, R.st_ok, R.st_ex, R.st_bad, RS.seq_nx, RS.seq_rt, RS.seq_ex, RS.seq_bk, RS.seq_ct, RS.seq_bad, optR_some, optR_none, Tg.set, setAll, asB, Lt.truthy, isNon, biLE, getL_tmp, getM_tmp, Option.isSome_some, reduceIte, if_true, if_false, Bool.false_eq_true, Option.map_some, w0, w1, w2, w3, w4, w5, w6, w7, w8, w9, w10, w11, w12, w13, w14, w15, w16, w17, w18, w19, w20, w21, w22, w23, w24, x0, x1, x2, x3, x4, x5, x6, x7, x8, x9, x10, x11, x12, x13, x14, x15, x16, x17, x18, x19, x20, x21, x22, x23, x24, z0, z1, z2, z3, z4, z5, z6, z7, z8, z9, z10, z11, z12, z13, z14, z15, z16, z17, z18, z19, z20, z21, z22, z23, z24, y0, y1, y2, y3, y4, y5, y6, y7, y8, y9, y10, y11, y12, y13, y14, y15, y16, y17, y18, y19, y20, y21, y22, y23, y24, b16_0, s1']
theorem deep_loop {all : List E} : ∀ (l : List E) (m : Nat) (v : Option E), ∃ v2, forS none all (.name ⟨13, "k", ⟨183, 8, 183, 9⟩⟩) (b16_0.ev (Pn 60)) l [s0, s1, s2, s3, s4, s5, s6, s7, s8, s9, s10, s11, s12, v, s14, s15, s16, some ((dp m).e), s18, s19, s20, s21] H = .nx [s0, s1, s2, s3, s4, s5, s6, s7, s8, s9, s10, s11, s12, v2, s14, s15, s16, some ((dp (m + l.length)).e), s18, s19, s20, s21] H
  | [], m, v => ⟨v, for_end rfl⟩
  | x :: l, m, v => by
    obtain ⟨v2, h⟩ := deep_loop (all := all) l (m + 1) (some x)
    refine ⟨v2, ?_⟩
    rw [for_nx (ρ1 := [s0, s1, s2, s3, s4, s5, s6, s7, s8, s9, s10, s11, s12, some x, s14, s15, s16, some ((dp m).e), s18, s19, s20, s21]) rfl rfl deep_turn, h, List.length_cons, Nat.add_assoc, Nat.add_comm 1]
theorem t24 (hT : IsT 2 H) : Good (r16_24.ev (Pn 60) [s0, some (.ref 2), s2, s3, s4, s5, s6, s7, s8, s9, s10, s11, s12, s13, s14, s15, s16, some ((dp 0).e), s18, s19, s20, s21] H) := by
  obtain ⟨v2, h⟩ := deep_loop (H := H) (s0 := s0) (s1 := some (.ref 2)) (s2 := s2) (s3 := s3) (s4 := s4) (s5 := s5) (s6 := s6) (s7 := s7) (s8 := s8) (s9 := s9) (s10 := s10) (s11 := s11) (s12 := s12) (s14 := s14) (s15 := s15) (s16 := s16) (s18 := s18) (s19 := s19) (s20 := s20) (s21 := s21) (all := rng 0 39) (rng 0 39) 0 s13
  rw [rng_len] at h
  have hin : in62 39 = true := by decide
  rw [r16_at24]
  refine Good_seq (ρ := [s0, some (.ref 2), s2, s3, s4, s5, s6, s7, s8, s9, s10, s11, s12, v2, s14, s15, s16, some ((dp 39).e), s18, s19, s20, s21]) (H := H) ?_ (t25 hT)
  have ht : (39 : Int).toNat = 39 := rfl
  simp -implicitDefEqProofs only [Stms.ev, Stm.ev, Ex.ev, Ex.evT, Exs.ev, Exs.evAnd, Exs.evOr, Exs.evTAnd, Exs.evTOr, Ox.ev, Ox.evT, Lx.ev, It.ev, v_c, v_bin, v_cmp, v_bl, v_isN, v_ntN, v_not, v_tru, v_asB, v_and, v_or, v_if, v_tup, v_nil, v_cons, v_sub, v_onone, v_osome, v_slice, v_call, v_glb, v_ofE, v_disp, v_cat, v_bi1, v_biL, v_isi, v_inS, v_sidx, v_join, v_subL, v_new, v_dct, v_lenSet, v_yes, v_itL, v_itA, v_itR1, v_itR2, v_lc, q_v_asg, q_v_par, q_v_setD, q_v_expr, q_v_app, q_v_if, q_v_for, q_v_ret, o_add, o_sub, c_lt, c_le, c_gt, c_ge, a_add, R.bind_ok, R.bind_ex, R.bind_bad, R.st_ok, R.st_ex, R.st_bad, RS.seq_nx, RS.seq_rt, RS.seq_ex, RS.seq_bk, RS.seq_ct, RS.seq_bad, optR_some, optR_none, Tg.set, setAll, asB, Lt.truthy, isNon, biLE, getL_tmp, getM_tmp, Option.isSome_some, reduceIte, if_true, if_false, Bool.false_eq_true, Option.map_some, w0, w1, w2, w3, w4, w5, w6, w7, w8, w9, w10, w11, w12, w13, w14, w15, w16, w17, w18, w19, w20, w21, w22, w23, w24, x0, x1, x2, x3, x4, x5, x6, x7, x8, x9, x10, x11, x12, x13, x14, x15, x16, x17, x18, x19, x20, x21, x22, x23, x24, z0, z1, z2, z3, z4, z5, z6, z7, z8, z9, z10, z11, z12, z13, z14, z15, z16, z17, z18, z19, z20, z21, z22, z23, z24, y0, y1, y2, y3, y4, y5, y6, y7, y8, y9, y10, y11, y12, y13, y14, y15, y16, y17, y18, y19, y20, y21, y22, y23, y24, c16_24, intE, hin, ht, h]
theorem t23 (hT : IsT 2 H) : Good (r16_23.ev (Pn 60) [s0, some (.ref 2), s2, s3, s4, s5, s6, s7, s8, s9, s10, s11, s12, s13, s14, s15, s16, s17, s18, s19, s20, s21] H) := by
  rw [r16_at23]
  have h0 : (dp 0).e = .non := by unfold dp Th.e; rfl
  refine Good_seq (ρ := [s0, some (.ref 2), s2, s3, s4, s5, s6, s7, s8, s9, s10, s11, s12, s13, s14, s15, s16, some ((dp 0).e), s18, s19, s20, s21]) (H := H) ?_ (t24 hT)
  rw [h0]
  simp -implicitDefEqProofs only [Stms.ev, Stm.ev, Ex.ev, Ex.evT, Exs.ev, Exs.evAnd, Exs.evOr, Exs.evTAnd, Exs.evTOr, Ox.ev, Ox.evT, Lx.ev, It.ev, v_c, v_bin, v_cmp, v_bl, v_isN, v_ntN, v_not, v_tru, v_asB, v_and, v_or, v_if, v_tup, v_nil, v_cons, v_sub, v_onone, v_osome, v_slice, v_call, v_glb, v_ofE, v_disp, v_cat, v_bi1, v_biL, v_isi, v_inS, v_sidx, v_join, v_subL, v_new, v_dct, v_lenSet, v_yes, v_itL, v_itA, v_itR1, v_itR2, v_lc, q_v_asg, q_v_par, q_v_setD, q_v_expr, q_v_app, q_v_if, q_v_for, q_v_ret, o_add, o_sub, c_lt, c_le, c_gt, c_ge, a_add, R.bind_ok, R.bind_ex, R.bind_bad, R.st_ok, R.st_ex, R.st_bad, RS.seq_nx, RS.seq_rt, RS.seq_ex, RS.seq_bk, RS.seq_ct, RS.seq_bad, optR_some, optR_none, Tg.set, setAll, asB, Lt.truthy, isNon, biLE, getL_tmp, getM_tmp, Option.isSome_some, reduceIte, if_true, if_false, Bool.false_eq_true, Option.map_some, w0, w1, w2, w3, w4, w5, w6, w7, w8, w9, w10, w11, w12, w13, w14, w15, w16, w17, w18, w19, w20, w21, w22, w23, w24, x0, x1, x2, x3, x4, x5, x6, x7, x8, x9, x10, x11, x12, x13, x14, x15, x16, x17, x18, x19, x20, x21, x22, x23, x24, z0, z1, z2, z3, z4, z5, z6, z7, z8, z9, z10, z11, z12, z13, z14, z15, z16, z17, z18, z19, z20, z21, z22, z23, z24, y0, y1, y2, y3, y4, y5, y6, y7, y8, y9, y10, y11, y12, y13, y14, y15, y16, y17, y18, y19, y20, y21, y22, y23, y24, c16_23]
theorem t22 (hT : IsT 2 H) : Good (r16_22.ev (Pn 60) [s0, some (.ref 2), s2, s3, s4, s5, s6, s7, s8, s9, s10, s11, s12, s13, s14, s15, s16, s17, s18, s19, s20, s21] H) := by
  have h := put_number_ex (k := 59) (H := H)
  have h : (Pn 60).cl 0 [.int (0 - 1)] H = .ex 0 H := h
  rw [r16_at22]
  refine Good_seq (ρ := [s0, some (.ref 2), s2, s3, s4, s5, s6, s7, s8, s9, s10, s11, s12, s13, s14, s15, s16, s17, s18, s19, s20, s21]) (H := H) ?_ (t23 hT)
  simp -implicitDefEqProofs only [Stms.ev, Stm.ev, Ex.ev, Ex.evT, Exs.ev, Exs.evAnd, Exs.evOr, Exs.evTAnd, Exs.evTOr, Ox.ev, Ox.evT, Lx.ev, It.ev, v_c, v_bin, v_cmp, v_bl, v_isN, v_ntN, v_not, v_tru, v_asB, v_and, v_or, v_if, v_tup, v_nil, v_cons, v_sub, v_onone, v_osome, v_slice, v_call, v_glb, v_ofE, v_disp, v_cat, v_bi1, v_biL, v_isi, v_inS, v_sidx, v_join, v_subL, v_new, v_dct, v_lenSet, v_yes, v_itL, v_itA, v_itR1, v_itR2, v_lc, q_v_asg, q_v_par, q_v_setD, q_v_expr, q_v_app, q_v_if, q_v_for, q_v_ret, o_add, o_sub, c_lt, c_le, c_gt, c_ge, a_add, R.bind_ok, R.bind_ex, R.bind_bad, R.st_ok, R.st_ex, R.st_bad, RS.seq_nx, RS.seq_rt, RS.seq_ex, RS.seq_bk, RS.seq_ct, RS.seq_bad, optR_some, optR_none, Tg.set, setAll, asB, Lt.truthy, isNon, biLE, getL_tmp, getM_tmp, Option.isSome_some, reduceIte, if_true, if_false, Bool.false_eq_true, Option.map_some, w0, w1, w2, w3, w4, w5, w6, w7, w8, w9, w10, w11, w12, w13, w14, w15, w16, w17, w18, w19, w20, w21, w22, w23, w24, x0, x1, x2, x3, x4, x5, x6, x7, x8, x9, x10, x11, x12, x13, x14, x15, x16, x17, x18, x19, x20, x21, x22, x23, x24, z0, z1, z2, z3, z4, z5, z6, z7, z8, z9, z10, z11, z12, z13, z14, z15, z16, z17, z18, z19, z20, z21, z22, z23, z24, y0, y1, y2, y3, y4, y5, y6, y7, y8, y9, y10, y11, y12, y13, y14, y15, y16, y17, y18, y19, y20, y21, y22, y23, y24, c16_22, v_refd, h, rf00, Bool.not_true]
theorem t21 (hT : IsT 2 H) : Good (r16_21.ev (Pn 60) [s0, some (.ref 2), s2, s3, s4, s5, s6, s7, s8, s9, s10, s11, s12, s13, s14, s15, s16, s17, s18, s19, s20, s21] H) := by
  obtain ⟨J, h⟩ := take_number_ex (k := 59) (H := H)
  have h : (Pn 60).cl 1 [.tup [.int 128, .int 0], .int 0] H = .ex 0 (H ++ J) := h
  have s2' : ∀ x y : E, [x, y].length ≤ sizeLine := fun x y => le_line (by simp)
  rw [r16_at21]
  refine Good_seq (ρ := [s0, some (.ref 2), s2, s3, s4, s5, s6, s7, s8, s9, s10, s11, s12, s13, s14, s15, s16, s17, s18, s19, s20, s21]) (H := H ++ J) ?_ (t22 (IsT_app hT))
  simp -implicitDefEqProofs only [Stms.ev, Stm.ev, Ex.ev, Ex.evT, Exs.ev, Exs.evAnd, Exs.evOr, Exs.evTAnd, Exs.evTOr, Ox.ev, Ox.evT, Lx.ev, It.ev, v_c, v_bin, v_cmp, v_bl, v_isN, v_ntN, v_not, v_tru, v_asB, v_and, v_or, v_if, v_tup, v_nil, v_cons, v_sub, v_onone, v_osome, v_slice, v_call, v_glb, v_ofE, v_disp, v_cat, v_bi1, v_biL, v_isi, v_inS, v_sidx, v_join, v_subL, v_new, v_dct, v_lenSet, v_yes, v_itL, v_itA, v_itR1, v_itR2, v_lc, q_v_asg, q_v_par, q_v_setD, q_v_expr, q_v_app, q_v_if, q_v_for, q_v_ret, o_add, o_sub, c_lt, c_le, c_gt, c_ge, a_add, R.bind_ok, R.bind_ex, R.bind_bad, R.st_ok, R.st_ex, R.st_bad, RS.seq_nx, RS.seq_rt, RS.seq_ex, RS.seq_bk, RS.seq_ct, RS.seq_bad, optR_some, optR_none, Tg.set, setAll, asB, Lt.truthy, isNon, biLE, getL_tmp, getM_tmp, Option.isSome_some, reduceIte, if_true, if_false, Bool.false_eq_true, Option.map_some, w0, w1, w2, w3, w4, w5, w6, w7, w8, w9, w10, w11, w12, w13, w14, w15, w16, w17, w18, w19, w20, w21, w22, w23, w24, x0, x1, x2, x3, x4, x5, x6, x7, x8, x9, x10, x11, x12, x13, x14, x15, x16, x17, x18, x19, x20, x21, x22, x23, x24, z0, z1, z2, z3, z4, z5, z6, z7, z8, z9, z10, z11, z12, z13, z14, z15, z16, z17, z18, z19, z20, z21, z22, z23, z24, y0, y1, y2, y3, y4, y5, y6, y7, y8, y9, y10, y11, y12, y13, y14, y15, y16, y17, y18, y19, y20, y21, y22, y23, y24, c16_21, v_refd, h, rf00, Bool.not_true, s2']
theorem bad_turn {row : List Nat} (hn : dec 40 row = none) (hs : Sh row) (hl : row.length ≤ 100000) : ∃ J, b16_1.ev (Pn 60) [s0, s1, s2, s3, s4, s5, s6, s7, s8, s9, s10, s11, s12, s13, s14, some (.tup (nats row)), s16, s17, s18, s19, s20, s21] H = .nx [s0, s1, s2, s3, s4, s5, s6, s7, s8, s9, s10, s11, s12, s13, s14, some (.tup (nats row)), s16, s17, s18, s19, s20, s21] (H ++ J) := by
  obtain ⟨J, h⟩ := thing_ex (k := 58) (row := row) (H := H) (by omega) hl hn hs
  have h : (Pn 60).cl 6 [.tup (nats row), .int 0] H = .ex 0 (H ++ J) := h
  refine ⟨J, ?_⟩
  simp -implicitDefEqProofs only [Stms.ev, Stm.ev, Ex.ev, Ex.evT, Exs.ev, Exs.evAnd, Exs.evOr, Exs.evTAnd, Exs.evTOr, Ox.ev, Ox.evT, Lx.ev, It.ev, v_c, v_bin, v_cmp, v_bl, v_isN, v_ntN, v_not, v_tru, v_asB, v_and, v_or, v_if, v_tup, v_nil, v_cons, v_sub, v_onone, v_osome, v_slice, v_call, v_glb, v_ofE, v_disp, v_cat, v_bi1, v_biL, v_isi, v_inS, v_sidx, v_join, v_subL, v_new, v_dct, v_lenSet, v_yes, v_itL, v_itA, v_itR1, v_itR2, v_lc, q_v_asg, q_v_par, q_v_setD, q_v_expr, q_v_app, q_v_if, q_v_for, q_v_ret, o_add, o_sub, c_lt, c_le, c_gt, c_ge, a_add, R.bind_ok, R.bind_ex, R.bind_bad, R.st_ok, R.st_ex, R.st_bad, RS.seq_nx, RS.seq_rt, RS.seq_ex, RS.seq_bk, RS.seq_ct, RS.seq_bad, optR_some, optR_none, Tg.set, setAll, asB, Lt.truthy, isNon, biLE, getL_tmp, getM_tmp, Option.isSome_some, reduceIte, if_true, if_false, Bool.false_eq_true, Option.map_some, w0, w1, w2, w3, w4, w5, w6, w7, w8, w9, w10, w11, w12, w13, w14, w15, w16, w17, w18, w19, w20, w21, w22, w23, w24, x0, x1, x2, x3, x4, x5, x6, x7, x8, x9, x10, x11, x12, x13, x14, x15, x16, x17, x18, x19, x20, x21, x22, x23, x24, z0, z1, z2, z3, z4, z5, z6, z7, z8, z9, z10, z11, z12, z13, z14, z15, z16, z17, z18, z19, z20, z21, z22, z23, z24, y0, y1, y2, y3, y4, y5, y6, y7, y8, y9, y10, y11, y12, y13, y14, y15, y16, y17, y18, y19, y20, y21, y22, y23, y24, b16_1, v_refd, h, rf00, Bool.not_true]
theorem bad_loop {all : List E} : ∀ (l : List (List Nat)) (H : Hq) (v : Option E), (∀ r ∈ l, dec 40 r = none ∧ Sh r ∧ r.length ≤ 100000) → ∃ v2 J, forS none all (.name ⟨15, "bad", ⟨175, 8, 175, 11⟩⟩) (b16_1.ev (Pn 60)) (l.map fun r => E.tup (nats r)) [s0, s1, s2, s3, s4, s5, s6, s7, s8, s9, s10, s11, s12, s13, s14, v, s16, s17, s18, s19, s20, s21] H = .nx [s0, s1, s2, s3, s4, s5, s6, s7, s8, s9, s10, s11, s12, s13, s14, v2, s16, s17, s18, s19, s20, s21] (H ++ J)
  | [], H, v, _ => ⟨v, [], by rw [List.append_nil, List.map_nil]; exact for_end rfl⟩
  | r :: l, H, v, hl => by
    have hr := hl r List.mem_cons_self
    obtain ⟨J1, h1⟩ := bad_turn (H := H) (s0 := s0) (s1 := s1) (s2 := s2) (s3 := s3) (s4 := s4) (s5 := s5) (s6 := s6) (s7 := s7) (s8 := s8) (s9 := s9) (s10 := s10) (s11 := s11) (s12 := s12) (s13 := s13) (s14 := s14) (s16 := s16) (s17 := s17) (s18 := s18) (s19 := s19) (s20 := s20) (s21 := s21) hr.1 hr.2.1 hr.2.2
    obtain ⟨v2, J2, h2⟩ := bad_loop (all := all) l (H ++ J1) (some (.tup (nats r))) (fun x hx => hl x (List.mem_cons_of_mem _ hx))
    refine ⟨v2, J1 ++ J2, ?_⟩
    rw [List.map_cons, for_nx (ρ1 := [s0, s1, s2, s3, s4, s5, s6, s7, s8, s9, s10, s11, s12, s13, s14, some (.tup (nats r)), s16, s17, s18, s19, s20, s21]) rfl rfl h1, h2, List.append_assoc]
def bads : List (List Nat) := [[], [128], [128, 0], [4], [2, 3, 1], [2, 1, 200], [3, 1]]
theorem bads_no : ∀ r ∈ bads, dec 40 r = none ∧ Sh r ∧ r.length ≤ 100000 := by
  intro r hr
  have e3 : dec 40 [3, 1] = none := by
    have h : dnum [1] = some (1, []) := rfl
    rw [dec_m3 h]
    rfl
  have e2 : dec 40 [2, 3, 1] = none := by
    rw [dec_m2]
    rfl
  have e4 : dec 40 [2, 1, 200] = none := by
    rw [dec_m2]
    rfl
  have q : ∀ a : Nat, mkrun [a] ≤ 4 := fun a => by
    unfold mkrun mkrun
    split <;> omega
  simp only [bads, List.mem_cons, List.not_mem_nil, or_false] at hr
  rcases hr with rfl | rfl | rfl | rfl | rfl | rfl | rfl
  · exact ⟨rfl, trivial, by simp⟩
  · exact ⟨dec_mx (by omega), ⟨q _, trivial⟩, by simp⟩
  · exact ⟨dec_mx (by omega), ⟨by unfold mkrun; rw [if_neg (by omega)]; unfold mkrun; rw [if_pos (by omega)]; omega, q _, trivial⟩, by simp⟩
  · exact ⟨dec_mx (by omega), ⟨q _, trivial⟩, by simp⟩
  · exact ⟨e2, Sh_lo (by omega) (Sh_lo (by omega) (Sh_lo (by omega) trivial)), by simp⟩
  · exact ⟨e4, Sh_lo (by omega) (Sh_lo (by omega) ⟨q _, trivial⟩), by simp⟩
  · exact ⟨e3, Sh_lo (by omega) (Sh_lo (by omega) trivial), by simp⟩
theorem t20 (hT : IsT 2 H) : Good (r16_20.ev (Pn 60) [s0, some (.ref 2), s2, s3, s4, s5, s6, s7, s8, s9, s10, s11, s12, s13, s14, s15, s16, s17, s18, s19, s20, s21] H) := by
  obtain ⟨v2, J, h⟩ := bad_loop (s0 := s0) (s1 := some (.ref 2)) (s2 := s2) (s3 := s3) (s4 := s4) (s5 := s5) (s6 := s6) (s7 := s7) (s8 := s8) (s9 := s9) (s10 := s10) (s11 := s11) (s12 := s12) (s13 := s13) (s14 := s14) (s16 := s16) (s17 := s17) (s18 := s18) (s19 := s19) (s20 := s20) (s21 := s21) (all := bads.map fun r => E.tup (nats r)) bads H s15 bads_no
  have hb : (bads.map fun r => E.tup (nats r)) = [.tup [], .tup [.int 128], .tup [.int 128, .int 0], .tup [.int 4], .tup [.int 2, .int 3, .int 1], .tup [.int 2, .int 1, .int 200], .tup [.int 3, .int 1]] := rfl
  rw [hb] at h
  have g0 : ([] : List E).length ≤ sizeLine := le_line (by simp)
  have g1 : ∀ x : E, [x].length ≤ sizeLine := fun x => le_line (by simp)
  have g2 : ∀ x y : E, [x, y].length ≤ sizeLine := fun x y => le_line (by simp)
  have g3 : ∀ x y z : E, [x, y, z].length ≤ sizeLine := fun x y z => le_line (by simp)
  have g7 : ∀ a b c d e f g : E, [a, b, c, d, e, f, g].length ≤ sizeLine := fun a b c d e f g => le_line (by simp)
  rw [r16_at20]
  refine Good_seq (ρ := [s0, some (.ref 2), s2, s3, s4, s5, s6, s7, s8, s9, s10, s11, s12, s13, s14, v2, s16, s17, s18, s19, s20, s21]) (H := H ++ J) ?_ (t21 (IsT_app hT))
  simp -implicitDefEqProofs only [Stms.ev, Stm.ev, Ex.ev, Ex.evT, Exs.ev, Exs.evAnd, Exs.evOr, Exs.evTAnd, Exs.evTOr, Ox.ev, Ox.evT, Lx.ev, It.ev, v_c, v_bin, v_cmp, v_bl, v_isN, v_ntN, v_not, v_tru, v_asB, v_and, v_or, v_if, v_tup, v_nil, v_cons, v_sub, v_onone, v_osome, v_slice, v_call, v_glb, v_ofE, v_disp, v_cat, v_bi1, v_biL, v_isi, v_inS, v_sidx, v_join, v_subL, v_new, v_dct, v_lenSet, v_yes, v_itL, v_itA, v_itR1, v_itR2, v_lc, q_v_asg, q_v_par, q_v_setD, q_v_expr, q_v_app, q_v_if, q_v_for, q_v_ret, o_add, o_sub, c_lt, c_le, c_gt, c_ge, a_add, R.bind_ok, R.bind_ex, R.bind_bad, R.st_ok, R.st_ex, R.st_bad, RS.seq_nx, RS.seq_rt, RS.seq_ex, RS.seq_bk, RS.seq_ct, RS.seq_bad, optR_some, optR_none, Tg.set, setAll, asB, Lt.truthy, isNon, biLE, getL_tmp, getM_tmp, Option.isSome_some, reduceIte, if_true, if_false, Bool.false_eq_true, Option.map_some, w0, w1, w2, w3, w4, w5, w6, w7, w8, w9, w10, w11, w12, w13, w14, w15, w16, w17, w18, w19, w20, w21, w22, w23, w24, x0, x1, x2, x3, x4, x5, x6, x7, x8, x9, x10, x11, x12, x13, x14, x15, x16, x17, x18, x19, x20, x21, x22, x23, x24, z0, z1, z2, z3, z4, z5, z6, z7, z8, z9, z10, z11, z12, z13, z14, z15, z16, z17, z18, z19, z20, z21, z22, z23, z24, y0, y1, y2, y3, y4, y5, y6, y7, y8, y9, y10, y11, y12, y13, y14, y15, y16, y17, y18, y19, y20, y21, y22, y23, y24, c16_20, g0, g1, g2, g3, g7, itE, h]
end
end K01
end
section
set_option Elab.async false
set_option linter.all false
set_option maxRecDepth 100000
set_option maxHeartbeats 1000000
/-! k01: the law's walk, numbers and texts. -/
namespace K01
open PySem Lt
theorem v_neL {ρ : Ro} {H : Hq} {a b : Sx LH} : sNeL a b ρ H = (a ρ H).bind fun x G1 => (b ρ G1).bind fun y G2 => (optR (x.get G2) G2).bind fun xs _ => (optR (y.get G2) G2).bind fun ys _ => optR (neLE xs ys) G2 := rfl
theorem AL_nodup : nodupB AL.cps.toList = true := by decide +kernel
theorem AL_rises : risesB AL.cps.toList = true := by decide +kernel
theorem v_listA {ρ : Ro} {H : Hq} {a : Sx E} (h : a ρ H = .ok (.str AL) H) : sListS a ρ H = .ok (.tmp (signs AL)) H := by
  unfold sListS
  rw [h]
  show (if AL.length ≤ 4000 then R.ok (LH.tmp (signs AL)) H else .bad) = _
  rw [if_pos (by rw [AL_len]; omega)]
theorem v_sortA {ρ : Ro} {H : Hq} {a : Sx E} (h : a ρ H = .ok (.str AL) H) : sSortS a ρ H = .ok (.tmp (signs AL)) H := by
  unfold sSortS
  rw [h]
  show (if AL.length ≤ 4000 ∧ risesB AL.cps.toList = true then R.ok (LH.tmp (signs AL)) H else .bad) = _
  rw [if_pos ⟨by rw [AL_len]; omega, AL_rises⟩]
theorem set_AL : lenSetE (.str AL) = some (.int 91) := by
  show (if AL.length < 4000 ∧ nodupB AL.cps.toList = true then some (E.int (AL.length : Int)) else none) = _
  rw [if_pos ⟨by rw [AL_len]; omega, AL_nodup⟩, AL_len]
  rfl
theorem dats_strs {α : Type} (f : α → Str) : ∀ l : List α, (E.dats (l.map fun c => E.str (f c))).isSome = true ∧ E.deps (l.map fun c => E.str (f c)) = 0
  | [] => ⟨rfl, rfl⟩
  | c :: l => by
    obtain ⟨h1, h2⟩ := dats_strs f l
    obtain ⟨d, hd⟩ := Option.isSome_iff_exists.mp h1
    refine ⟨?_, ?_⟩
    · show (match (E.str (f c)).dat, E.dats (l.map fun c => E.str (f c)) with
        | some d, some ds => some (d :: ds)
        | _, _ => none).isSome = true
      rw [hd]
      rfl
    · show max 0 (E.deps (l.map fun c => E.str (f c))) = 0
      rw [h2]
      rfl
theorem neL_AL : neLE (signs AL) (signs AL) = some false := by
  obtain ⟨h1, h2⟩ := dats_strs (fun c : Nat => (⟨#[c]⟩ : Str)) AL.cps.toList
  obtain ⟨d, hd⟩ := Option.isSome_iff_exists.mp h1
  have hd : E.dats (signs AL) = some d := hd
  have h2 : E.deps (signs AL) = 0 := h2
  unfold neLE
  rw [hd]
  show (if PyData.depth (.list d) ≤ 64 ∨ PyData.depth (.list d) ≤ 64 then some (!(PyData.eqv (.list d) (.list d))) else none) = _
  have hdep : PyData.depth (.list d) ≤ 64 := by
    show PyData.depthAll d + 1 ≤ 64
    rw [deps_dat hd, h2]
    omega
  rw [if_pos (.inl hdep)]
  have hv : PyData.eqv (.list d) (.list d) = true := eqvs_self hd
  rw [hv]
  rfl
section
variable {H : Hq} {s0 s1 s2 s3 s4 s5 s6 s7 s8 s9 s10 s11 s12 s13 s14 s15 s16 s17 s18 s19 s20 s21 : Option E}
theorem t19 {l : List Nat} (hl : l.length ≤ 5) (h91 : ∀ i ∈ l, i < 91) (hT : IsT 2 H) : Good (r16_19.ev (Pn 60) [s0, some (.ref 2), s2, s3, s4, s5, s6, s7, s8, s9, s10, s11, s12, s13, some (.str (txt l)), s15, s16, s17, s18, s19, s20, s21] H) := by
  have h1 := put_text_ok (k := 58) (l := l) (H := H) (by omega) h91
  rw [← par_cl] at h1
  have h1 : (Pn 60).cl 2 [.str (txt l)] H = .ok (.tup (nats (num l.length ++ l))) H := h1
  have h2 := take_text_ok (k := 58) (at0 := 0) (row := num l.length ++ l) (H := H) (by rw [num_lt (by omega)]; simp; omega) (by omega)
  have hd := dtxt_put (l := l) (r := []) h91
  rw [List.append_nil] at hd
  rw [← par_cl, List.drop_zero, hd] at h2
  have h2 : (Pn 60).cl 3 [.tup (nats (num l.length ++ l)), .int 0] H = .ok (.tup [.str (txt l), .int ((num l.length ++ l).length : Int)]) H := h2
  have hlen : lenE H (.tup (nats (num l.length ++ l))) = some (num l.length ++ l).length := by show some (nats (num l.length ++ l)).length = _; rw [nats_len]
  have g2 : ∀ x y : E, [x, y].length ≤ sizeLine := fun x y => le_line (by simp)
  have n1 := ne_spair (s := txt l) (n := ((num l.length ++ l).length : Int))
  have n2 : cmpop .ne (.int 91) (.int ((91 : Nat) : Int)) = some false := ne_num (n := 91)
  have la := v_listA (ρ := [s0, some (.ref 2), s2, s3, s4, s5, s6, s7, s8, s9, s10, s11, s12, s13, some (.str (txt l)), s15, s16, s17, s18, s19, s20, s21]) (H := H) (a := sGlb (Pn 60) 0) rfl
  have sa := v_sortA (ρ := [s0, some (.ref 2), s2, s3, s4, s5, s6, s7, s8, s9, s10, s11, s12, s13, some (.str (txt l)), s15, s16, s17, s18, s19, s20, s21]) (H := H) (a := sGlb (Pn 60) 0) rfl
  have al := al_len (H := H)
  rw [r16_at19]
  refine Good_seq (ρ := [s0, some (.ref 2), s2, s3, s4, s5, s6, s7, s8, s9, s10, s11, s12, s13, some (.str (txt l)), s15, s16, s17, s18, s19, s20, s21]) (H := H) ?_ (t20 hT)
  simp -implicitDefEqProofs only [Stms.ev, Stm.ev, Ex.ev, Ex.evT, Exs.ev, Exs.evAnd, Exs.evOr, Exs.evTAnd, Exs.evTOr, Ox.ev, Ox.evT, Lx.ev, It.ev, v_c, v_bin, v_cmp, v_bl, v_isN, v_ntN, v_not, v_tru, v_asB, v_and, v_or, v_if, v_tup, v_nil, v_cons, v_sub, v_onone, v_osome, v_slice, v_call, v_glb, v_ofE, v_disp, v_cat, v_bi1, v_biL, v_isi, v_inS, v_sidx, v_join, v_subL, v_new, v_dct, v_lenSet, v_yes, v_itL, v_itA, v_itR1, v_itR2, v_lc, q_v_asg, q_v_par, q_v_setD, q_v_expr, q_v_app, q_v_if, q_v_for, q_v_ret, o_add, o_sub, c_lt, c_le, c_gt, c_ge, a_add, R.bind_ok, R.bind_ex, R.bind_bad, R.st_ok, R.st_ex, R.st_bad, RS.seq_nx, RS.seq_rt, RS.seq_ex, RS.seq_bk, RS.seq_ct, RS.seq_bad, optR_some, optR_none, Tg.set, setAll, asB, Lt.truthy, isNon, biLE, getL_tmp, getM_tmp, Option.isSome_some, reduceIte, if_true, if_false, Bool.false_eq_true, Option.map_some, w0, w1, w2, w3, w4, w5, w6, w7, w8, w9, w10, w11, w12, w13, w14, w15, w16, w17, w18, w19, w20, w21, w22, w23, w24, x0, x1, x2, x3, x4, x5, x6, x7, x8, x9, x10, x11, x12, x13, x14, x15, x16, x17, x18, x19, x20, x21, x22, x23, x24, z0, z1, z2, z3, z4, z5, z6, z7, z8, z9, z10, z11, z12, z13, z14, z15, z16, z17, z18, z19, z20, z21, z22, z23, z24, y0, y1, y2, y3, y4, y5, y6, y7, y8, y9, y10, y11, y12, y13, y14, y15, y16, y17, y18, y19, y20, y21, y22, y23, y24, c16_19, h1, h2, hlen, bi1E, g2, n1, glb0, set_AL, al, n2, v_neL, la, sa, neL_AL]
theorem sgnL_ok {t : Nat} {y : E} (h : IsT t H) : ∃ (i : Nat) (v : Ob), b16_2.ev (Pn 60) (List.set [s0, some (.ref t), s2, s3, s4, s5, s6, s7, s8, s9, s10, s11, s12, s13, s14, s15, s16, s17, s18, s19, s20, s21] 13 (some y)) H = .ok (E.str (sg i)) (H.set t v) ∧ IsT t (H.set t v) ∧ i < 91 := by
  obtain ⟨d, H2, h1, ⟨h2, v, rfl⟩, h3⟩ := tk (k := 59) (m := 91) h (by omega) (by omega)
  have h1 : (Pn 60).cl 12 [.ref t, .int ((91 : Nat) : Int)] H = _ := h1
  refine ⟨d, v, ?_, h2, h3⟩
  have ha := al_at (H := H.set t v) h3
  have hl := al_len (H := H)
  simp -implicitDefEqProofs only [Stms.ev, Stm.ev, Ex.ev, Ex.evT, Exs.ev, Exs.evAnd, Exs.evOr, Exs.evTAnd, Exs.evTOr, Ox.ev, Ox.evT, Lx.ev, It.ev, v_c, v_bin, v_cmp, v_bl, v_isN, v_ntN, v_not, v_tru, v_asB, v_and, v_or, v_if, v_tup, v_nil, v_cons, v_sub, v_onone, v_osome, v_slice, v_call, v_glb, v_ofE, v_disp, v_cat, v_bi1, v_biL, v_isi, v_inS, v_sidx, v_join, v_subL, v_new, v_dct, v_lenSet, v_yes, v_itL, v_itA, v_itR1, v_itR2, v_lc, q_v_asg, q_v_par, q_v_setD, q_v_expr, q_v_app, q_v_if, q_v_for, q_v_ret, o_add, o_sub, c_lt, c_le, c_gt, c_ge, a_add, R.bind_ok, R.bind_ex, R.bind_bad, R.st_ok, R.st_ex, R.st_bad, RS.seq_nx, RS.seq_rt, RS.seq_ex, RS.seq_bk, RS.seq_ct, RS.seq_bad, optR_some, optR_none, Tg.set, setAll, asB, Lt.truthy, isNon, biLE, getL_tmp, getM_tmp, Option.isSome_some, reduceIte, if_true, if_false, Bool.false_eq_true, Option.map_some, w0, w1, w2, w3, w4, w5, w6, w7, w8, w9, w10, w11, w12, w13, w14, w15, w16, w17, w18, w19, w20, w21, w22, w23, w24, x0, x1, x2, x3, x4, x5, x6, x7, x8, x9, x10, x11, x12, x13, x14, x15, x16, x17, x18, x19, x20, x21, x22, x23, x24, z0, z1, z2, z3, z4, z5, z6, z7, z8, z9, z10, z11, z12, z13, z14, z15, z16, z17, z18, z19, z20, z21, z22, z23, z24, y0, y1, y2, y3, y4, y5, y6, y7, y8, y9, y10, y11, y12, y13, y14, y15, y16, y17, y18, y19, y20, y21, y22, y23, y24, b16_2, glb0, hl, bi1E, h1, ha]
theorem t18 (hT : IsT 2 H) : Good (r16_18.ev (Pn 60) [s0, some (.ref 2), s2, s3, s4, s5, s6, s7, s8, s9, s10, s11, s12, s13, s14, s15, s16, s17, s18, s19, s20, s21] H) := by
  obtain ⟨d0, H0, t0, p0, l0⟩ := tk (k := 59) (t := 2) (m := 6) hT (by omega) (by omega)
  have t0 : (Pn 60).cl 12 [.ref 2, .int 6] H = _ := t0
  obtain ⟨l, v, e1, e2, e3, e4⟩ := lc_tape (g := fun i => E.str (sg i)) (Q := fun i => i < 91) (all := rng 0 d0) (e := b16_2.ev (Pn 60)) (n := ⟨13, "k", ⟨172, 65, 172, 66⟩⟩) (ρ := [s0, some (.ref 2), s2, s3, s4, s5, s6, s7, s8, s9, s10, s11, s12, none, s14, s15, s16, s17, s18, s19, s20, none]) (t := 2) (fun y H hT => sgnL_ok hT) (rng 0 d0) [] H0 p0.1 (by rw [rng_len]; simp; omega)
  rw [rng_len] at e3
  rw [List.nil_append] at e1
  have hj := joinE_sg (l := l) (by omega)
  rw [show Str.empty = ("" : Str) by decide +kernel] at hj
  have hin : in62 (d0 : Int) = true := in62_nat (by omega)
  rw [r16_at18]
  refine Good_seq (ρ := [s0, some (.ref 2), s2, s3, s4, s5, s6, s7, s8, s9, s10, s11, s12, s13, some (.str (txt l)), s15, s16, s17, s18, s19, s20, s21]) (H := H0.set 2 v) ?_ (t19 (by omega) e4 e2)
  simp -implicitDefEqProofs only [Stms.ev, Stm.ev, Ex.ev, Ex.evT, Exs.ev, Exs.evAnd, Exs.evOr, Exs.evTAnd, Exs.evTOr, Ox.ev, Ox.evT, Lx.ev, It.ev, v_c, v_bin, v_cmp, v_bl, v_isN, v_ntN, v_not, v_tru, v_asB, v_and, v_or, v_if, v_tup, v_nil, v_cons, v_sub, v_onone, v_osome, v_slice, v_call, v_glb, v_ofE, v_disp, v_cat, v_bi1, v_biL, v_isi, v_inS, v_sidx, v_join, v_subL, v_new, v_dct, v_lenSet, v_yes, v_itL, v_itA, v_itR1, v_itR2, v_lc, q_v_asg, q_v_par, q_v_setD, q_v_expr, q_v_app, q_v_if, q_v_for, q_v_ret, o_add, o_sub, c_lt, c_le, c_gt, c_ge, a_add, R.bind_ok, R.bind_ex, R.bind_bad, R.st_ok, R.st_ex, R.st_bad, RS.seq_nx, RS.seq_rt, RS.seq_ex, RS.seq_bk, RS.seq_ct, RS.seq_bad, optR_some, optR_none, Tg.set, setAll, asB, Lt.truthy, isNon, biLE, getL_tmp, getM_tmp, Option.isSome_some, reduceIte, if_true, if_false, Bool.false_eq_true, Option.map_some, w0, w1, w2, w3, w4, w5, w6, w7, w8, w9, w10, w11, w12, w13, w14, w15, w16, w17, w18, w19, w20, w21, w22, w23, w24, x0, x1, x2, x3, x4, x5, x6, x7, x8, x9, x10, x11, x12, x13, x14, x15, x16, x17, x18, x19, x20, x21, x22, x23, x24, z0, z1, z2, z3, z4, z5, z6, z7, z8, z9, z10, z11, z12, z13, z14, z15, z16, z17, z18, z19, z20, z21, z22, z23, z24, y0, y1, y2, y3, y4, y5, y6, y7, y8, y9, y10, y11, y12, y13, y14, y15, y16, y17, y18, y19, y20, y21, y22, y23, y24, c16_18, t0, intE, hin, Int.toNat_natCast, wipeR, List.map_cons, List.map_nil, e1, hj]
theorem t17 {n : Nat} (hn : n < 100000) (hT : IsT 2 H) : Good (r16_17.ev (Pn 60) [s0, some (.ref 2), s2, s3, s4, s5, s6, s7, s8, s9, s10, s11, some (.int (n : Int)), s13, s14, s15, s16, s17, s18, s19, s20, s21] H) := by
  have hn9 : n < 128 ^ 9 := by omega
  have h1 := put_number_ok (k := 59) (n := n) (H := H) (small100 hn9)
  rw [← par_cl] at h1
  have h1 : (Pn 60).cl 0 [.int (n : Int)] H = .ok (.tup (nats (num n))) H := h1
  have h2 := law_number_ok (k := 59) (n := n) (H := H) (small100 hn9)
  rw [← par_cl] at h2
  have h2 : (Pn 60).cl 14 [.int (n : Int)] H = .ok (.tup (nats (num n))) H := h2
  have hl := num_len hn9
  have h3 := take_number_ok (k := 59) (at0 := 1) (row := 9 :: num n) (H := H) (by simp; omega) (by omega)
  have hd := dnum_num n []
  rw [List.append_nil] at hd
  rw [← par_cl, show (9 :: num n).drop 1 = num n from rfl, hd] at h3
  have h3 : (Pn 60).cl 1 [.tup (nats (9 :: num n)), .int 1] H = .ok (.tup [.int (n : Int), .int (((9 :: num n).length : Nat) : Int)]) H := h3
  have e1 : (1 : Int) + ((num n).length : Int) = (((9 :: num n).length : Nat) : Int) := by rw [List.length_cons]; omega
  have hlen : lenE H (.tup (nats (num n))) = some (num n).length := by show some (nats (num n)).length = _; rw [nats_len]
  have g1 : ∀ x : E, [x].length ≤ sizeLine := fun x => le_line (by simp)
  have g2 : ∀ x y : E, [x, y].length ≤ sizeLine := fun x y => le_line (by simp)
  have ha : binop .add (.tup [E.int 9]) (.tup (nats (num n))) = some (.tup (nats (9 :: num n))) := o_addT (by rw [nats_len]; simp; omega)
  have n1 := ne_nats (l := num n)
  have n2 := ne_ipair (m := (n : Int)) (n := (((9 :: num n).length : Nat) : Int))
  rw [r16_at17]
  refine Good_seq (ρ := [s0, some (.ref 2), s2, s3, s4, s5, s6, s7, s8, s9, s10, s11, some (.int (n : Int)), s13, s14, s15, s16, s17, s18, s19, s20, s21]) (H := H) ?_ (t18 hT)
  simp -implicitDefEqProofs only [Stms.ev, Stm.ev, Ex.ev, Ex.evT, Exs.ev, Exs.evAnd, Exs.evOr, Exs.evTAnd, Exs.evTOr, Ox.ev, Ox.evT, Lx.ev, It.ev, v_c, v_bin, v_cmp, v_bl, v_isN, v_ntN, v_not, v_tru, v_asB, v_and, v_or, v_if, v_tup, v_nil, v_cons, v_sub, v_onone, v_osome, v_slice, v_call, v_glb, v_ofE, v_disp, v_cat, v_bi1, v_biL, v_isi, v_inS, v_sidx, v_join, v_subL, v_new, v_dct, v_lenSet, v_yes, v_itL, v_itA, v_itR1, v_itR2, v_lc, q_v_asg, q_v_par, q_v_setD, q_v_expr, q_v_app, q_v_if, q_v_for, q_v_ret, o_add, o_sub, c_lt, c_le, c_gt, c_ge, a_add, R.bind_ok, R.bind_ex, R.bind_bad, R.st_ok, R.st_ex, R.st_bad, RS.seq_nx, RS.seq_rt, RS.seq_ex, RS.seq_bk, RS.seq_ct, RS.seq_bad, optR_some, optR_none, Tg.set, setAll, asB, Lt.truthy, isNon, biLE, getL_tmp, getM_tmp, Option.isSome_some, reduceIte, if_true, if_false, Bool.false_eq_true, Option.map_some, w0, w1, w2, w3, w4, w5, w6, w7, w8, w9, w10, w11, w12, w13, w14, w15, w16, w17, w18, w19, w20, w21, w22, w23, w24, x0, x1, x2, x3, x4, x5, x6, x7, x8, x9, x10, x11, x12, x13, x14, x15, x16, x17, x18, x19, x20, x21, x22, x23, x24, z0, z1, z2, z3, z4, z5, z6, z7, z8, z9, z10, z11, z12, z13, z14, z15, z16, z17, z18, z19, z20, z21, z22, z23, z24, y0, y1, y2, y3, y4, y5, y6, y7, y8, y9, y10, y11, y12, y13, y14, y15, y16, y17, y18, y19, y20, y21, y22, y23, y24, c16_17, h1, h2, n1, g1, g2, ha, h3, hlen, bi1E, e1, n2]
theorem twoNums {d0 d1 d2 : Nat} (h0 : d0 < 300) (h1 : d1 < 100000) (h2 : d2 < 2) : ∃ n : Nat, n < 100000 ∧ L2.atI [E.int (d0 : Int), E.int (d1 : Int)] (d2 : Int) = some (.int (n : Int)) := by
  match d2, h2 with
  | 0, _ => exact ⟨d0, by omega, atI_nat (j := 0) rfl⟩
  | 1, _ => exact ⟨d1, h1, atI_nat (j := 1) rfl⟩
theorem t16 (hT : IsT 2 H) : Good (r16_16.ev (Pn 60) [s0, some (.ref 2), s2, s3, s4, s5, s6, s7, s8, s9, s10, s11, s12, s13, s14, s15, s16, s17, s18, s19, s20, s21] H) := by
  obtain ⟨d0, H0, t0, p0, l0⟩ := tk (k := 59) (t := 2) (m := 300) hT (by omega) (by omega)
  obtain ⟨d1, H1, t1, p1, l1⟩ := tk (k := 59) (t := 2) (m := 100000) p0.1 (by omega) (by omega)
  obtain ⟨d2, H2, t2, p2, l2⟩ := tk (k := 59) (t := 2) (m := 2) p1.1 (by omega) (by omega)
  have t0 : (Pn 60).cl 12 [.ref 2, .int 300] H = _ := t0
  have t1 : (Pn 60).cl 12 [.ref 2, .int 100000] H0 = _ := t1
  have t2 : (Pn 60).cl 12 [.ref 2, .int 2] H1 = _ := t2
  obtain ⟨n, hn, ha⟩ := twoNums l0 l1 l2
  have g2 : ∀ x y : E, [x, y].length ≤ sizeLine := fun x y => le_line (by simp)
  rw [r16_at16]
  refine Good_seq (ρ := [s0, some (.ref 2), s2, s3, s4, s5, s6, s7, s8, s9, s10, s11, some (.int (n : Int)), s13, s14, s15, s16, s17, s18, s19, s20, s21]) (H := H2) ?_ (t17 hn p2.1)
  simp -implicitDefEqProofs only [Stms.ev, Stm.ev, Ex.ev, Ex.evT, Exs.ev, Exs.evAnd, Exs.evOr, Exs.evTAnd, Exs.evTOr, Ox.ev, Ox.evT, Lx.ev, It.ev, v_c, v_bin, v_cmp, v_bl, v_isN, v_ntN, v_not, v_tru, v_asB, v_and, v_or, v_if, v_tup, v_nil, v_cons, v_sub, v_onone, v_osome, v_slice, v_call, v_glb, v_ofE, v_disp, v_cat, v_bi1, v_biL, v_isi, v_inS, v_sidx, v_join, v_subL, v_new, v_dct, v_lenSet, v_yes, v_itL, v_itA, v_itR1, v_itR2, v_lc, q_v_asg, q_v_par, q_v_setD, q_v_expr, q_v_app, q_v_if, q_v_for, q_v_ret, o_add, o_sub, c_lt, c_le, c_gt, c_ge, a_add, R.bind_ok, R.bind_ex, R.bind_bad, R.st_ok, R.st_ex, R.st_bad, RS.seq_nx, RS.seq_rt, RS.seq_ex, RS.seq_bk, RS.seq_ct, RS.seq_bad, optR_some, optR_none, Tg.set, setAll, asB, Lt.truthy, isNon, biLE, getL_tmp, getM_tmp, Option.isSome_some, reduceIte, if_true, if_false, Bool.false_eq_true, Option.map_some, w0, w1, w2, w3, w4, w5, w6, w7, w8, w9, w10, w11, w12, w13, w14, w15, w16, w17, w18, w19, w20, w21, w22, w23, w24, x0, x1, x2, x3, x4, x5, x6, x7, x8, x9, x10, x11, x12, x13, x14, x15, x16, x17, x18, x19, x20, x21, x22, x23, x24, z0, z1, z2, z3, z4, z5, z6, z7, z8, z9, z10, z11, z12, z13, z14, z15, z16, z17, z18, z19, z20, z21, z22, z23, z24, y0, y1, y2, y3, y4, y5, y6, y7, y8, y9, y10, y11, y12, y13, y14, y15, y16, y17, y18, y19, y20, y21, y22, y23, y24, c16_16, t0, t1, t2, g2, intE, ha]
end
end K01
end
section
set_option Elab.async false
set_option linter.all false
set_option maxRecDepth 100000
set_option maxHeartbeats 1000000
/-! k01: the law's walk, its first statements. -/
namespace K01
open PySem Lt
section
variable {H : Hq} {s0 s1 s2 s3 s4 s5 s6 s7 s8 s9 s10 s11 s12 s13 s14 s15 s16 s17 s18 s19 s20 s21 : Option E} {x y : Th}
theorem len_nats {l : List Nat} : lenE H (.tup (nats l)) = some l.length := by
  show some (nats l).length = _
  rw [nats_len]
theorem t15 {j a b : Nat} (hs : x.sm) (hd : x.dep ≤ 4) (hj : (sld x)[j]? = some a) (hb : b < 256) (hne : a ≠ b) (hT : IsT 2 H) : Good (r16_15.ev (Pn 60) [s0, some (.ref 2), s2, s3, s4, s5, s6, s7, s8, s9, s10, s11, s12, s13, s14, s15, some (.tup (nats ((sld x).set j b))), s17, s18, s19, s20, s21] H) := by
  obtain ⟨J, h⟩ := sealed_bent (k := 57) (H := H) (by omega) hs hd hj hb hne
  have h : (Pn 60).cl 10 [.tup (nats ((sld x).set j b)), .int 0] H = .ex 0 (H ++ J) := h
  rw [r16_at15]
  refine Good_seq (ρ := [s0, some (.ref 2), s2, s3, s4, s5, s6, s7, s8, s9, s10, s11, s12, s13, s14, s15, some (.tup (nats ((sld x).set j b))), s17, s18, s19, s20, s21]) (H := H ++ J) ?_ (t16 (IsT_app hT))
  simp -implicitDefEqProofs only [Stms.ev, Stm.ev, Ex.ev, Ex.evT, Exs.ev, Exs.evAnd, Exs.evOr, Exs.evTAnd, Exs.evTOr, Ox.ev, Ox.evT, Lx.ev, It.ev, v_c, v_bin, v_cmp, v_bl, v_isN, v_ntN, v_not, v_tru, v_asB, v_and, v_or, v_if, v_tup, v_nil, v_cons, v_sub, v_onone, v_osome, v_slice, v_call, v_glb, v_ofE, v_disp, v_cat, v_bi1, v_biL, v_isi, v_inS, v_sidx, v_join, v_subL, v_new, v_dct, v_lenSet, v_yes, v_itL, v_itA, v_itR1, v_itR2, v_lc, q_v_asg, q_v_par, q_v_setD, q_v_expr, q_v_app, q_v_if, q_v_for, q_v_ret, o_add, o_sub, c_lt, c_le, c_gt, c_ge, a_add, R.bind_ok, R.bind_ex, R.bind_bad, R.st_ok, R.st_ex, R.st_bad, RS.seq_nx, RS.seq_rt, RS.seq_ex, RS.seq_bk, RS.seq_ct, RS.seq_bad, optR_some, optR_none, Tg.set, setAll, asB, Lt.truthy, isNon, biLE, getL_tmp, getM_tmp, Option.isSome_some, reduceIte, if_true, if_false, Bool.false_eq_true, Option.map_some, w0, w1, w2, w3, w4, w5, w6, w7, w8, w9, w10, w11, w12, w13, w14, w15, w16, w17, w18, w19, w20, w21, w22, w23, w24, x0, x1, x2, x3, x4, x5, x6, x7, x8, x9, x10, x11, x12, x13, x14, x15, x16, x17, x18, x19, x20, x21, x22, x23, x24, z0, z1, z2, z3, z4, z5, z6, z7, z8, z9, z10, z11, z12, z13, z14, z15, z16, z17, z18, z19, z20, z21, z22, z23, z24, y0, y1, y2, y3, y4, y5, y6, y7, y8, y9, y10, y11, y12, y13, y14, y15, y16, y17, y18, y19, y20, y21, y22, y23, y24, c16_15, v_refd, h, rf00, Bool.not_true]
theorem set_cut {l : List Nat} {j b : Nat} (h : j < l.length) : l.take j ++ [b] ++ l.drop (j + 1) = l.set j b := by
  rw [List.set_eq_take_append_cons_drop, if_pos h]
  simp
theorem t14 {j : Nat} (hs : x.sm) (hd : x.dep ≤ 4) (hj : j < (sld x).length) (hT : IsT 2 H) : Good (r16_14.ev (Pn 60) [s0, some (.ref 2), s2, s3, s4, s5, s6, s7, s8, s9, s10, some (.int (j : Int)), s12, s13, s14, s15, s16, s17, s18, some (.tup (nats (sld x))), s20, s21] H) := by
  have hl := sld_len hs hd
  obtain ⟨a, ha⟩ : ∃ a, (sld x)[j]? = some a := ⟨_, List.getElem?_eq_getElem hj⟩
  have ha2 : a < 256 := sld_255 hs a (List.mem_of_getElem? ha)
  obtain ⟨d, H2, h, p, hd255⟩ := tk (k := 59) (t := 2) (m := 255) hT (by omega) (by omega)
  have h : (Pn 60).cl 12 [.ref 2, .int 255] H = .ok (.int (d : Int)) H2 := h
  have hc1 := cut_lo (row := sld x) (b := j)
  have hsub := sub_nats (H := H) ha
  have hc2 : cutE (some ((j : Int) + 1)) none (.tup (nats (sld x))) = some (.tup (nats ((sld x).drop (j + 1)))) := cut_hi (row := sld x) (a := j + 1)
  have q1 : (0 : Int) < 256 := by decide
  have e1 : ((a : Int) + 1 + (d : Int)) % 256 = (((a + 1 + d) % 256 : Nat) : Int) := by omega
  have g1 : ∀ x : E, [x].length ≤ sizeLine := fun x => le_line (by simp)
  have a1 : binop .add (.tup (nats ((sld x).take j))) (.tup [.int (((a + 1 + d) % 256 : Nat) : Int)]) = some (.tup (nats ((sld x).take j ++ [(a + 1 + d) % 256]))) := by
    rw [o_addT (by rw [nats_len, List.length_take]; simp; omega), nats_app]
    rfl
  have a2 : binop .add (.tup (nats ((sld x).take j ++ [(a + 1 + d) % 256]))) (.tup (nats ((sld x).drop (j + 1)))) = some (.tup (nats ((sld x).set j ((a + 1 + d) % 256)))) := by
    rw [o_addT (by rw [nats_len, nats_len, List.length_append, List.length_take, List.length_drop]; simp; omega), ← nats_app, set_cut hj]
  rw [r16_at14]
  refine Good_seq (ρ := [s0, some (.ref 2), s2, s3, s4, s5, s6, s7, s8, s9, s10, some (.int (j : Int)), s12, s13, s14, s15, some (.tup (nats ((sld x).set j ((a + 1 + d) % 256)))), s17, s18, some (.tup (nats (sld x))), s20, s21]) (H := H2) ?_ (t15 hs hd ha (by omega) (by omega) p.1)
  simp -implicitDefEqProofs only [Stms.ev, Stm.ev, Ex.ev, Ex.evT, Exs.ev, Exs.evAnd, Exs.evOr, Exs.evTAnd, Exs.evTOr, Ox.ev, Ox.evT, Lx.ev, It.ev, v_c, v_bin, v_cmp, v_bl, v_isN, v_ntN, v_not, v_tru, v_asB, v_and, v_or, v_if, v_tup, v_nil, v_cons, v_sub, v_onone, v_osome, v_slice, v_call, v_glb, v_ofE, v_disp, v_cat, v_bi1, v_biL, v_isi, v_inS, v_sidx, v_join, v_subL, v_new, v_dct, v_lenSet, v_yes, v_itL, v_itA, v_itR1, v_itR2, v_lc, q_v_asg, q_v_par, q_v_setD, q_v_expr, q_v_app, q_v_if, q_v_for, q_v_ret, o_add, o_sub, c_lt, c_le, c_gt, c_ge, a_add, R.bind_ok, R.bind_ex, R.bind_bad, R.st_ok, R.st_ex, R.st_bad, RS.seq_nx, RS.seq_rt, RS.seq_ex, RS.seq_bk, RS.seq_ct, RS.seq_bad, optR_some, optR_none, Tg.set, setAll, asB, Lt.truthy, isNon, biLE, getL_tmp, getM_tmp, Option.isSome_some, reduceIte, if_true, if_false, Bool.false_eq_true, Option.map_some, w0, w1, w2, w3, w4, w5, w6, w7, w8, w9, w10, w11, w12, w13, w14, w15, w16, w17, w18, w19, w20, w21, w22, w23, w24, x0, x1, x2, x3, x4, x5, x6, x7, x8, x9, x10, x11, x12, x13, x14, x15, x16, x17, x18, x19, x20, x21, x22, x23, x24, z0, z1, z2, z3, z4, z5, z6, z7, z8, z9, z10, z11, z12, z13, z14, z15, z16, z17, z18, z19, z20, z21, z22, z23, z24, y0, y1, y2, y3, y4, y5, y6, y7, y8, y9, y10, y11, y12, y13, y14, y15, y16, y17, y18, y19, y20, y21, y22, y23, y24, c16_14, hc1, hsub, h, bi1E, o_mod q1, e1, g1, a1, hc2, a2]
theorem t13 (hs : x.sm) (hd : x.dep ≤ 4) (hT : IsT 2 H) : Good (r16_13.ev (Pn 60) [s0, some (.ref 2), s2, s3, s4, s5, s6, s7, s8, s9, s10, s11, s12, s13, s14, s15, s16, s17, s18, some (.tup (nats (sld x))), s20, s21] H) := by
  have hl := sld_len hs hd
  obtain ⟨j, H2, h, p, hj⟩ := tk (k := 59) (t := 2) (m := (sld x).length) hT (by omega) (by omega)
  have h : (Pn 60).cl 12 [.ref 2, .int ((sld x).length : Int)] H = .ok (.int (j : Int)) H2 := h
  rw [r16_at13]
  refine Good_seq (ρ := [s0, some (.ref 2), s2, s3, s4, s5, s6, s7, s8, s9, s10, some (.int (j : Int)), s12, s13, s14, s15, s16, s17, s18, some (.tup (nats (sld x))), s20, s21]) (H := H2) ?_ (t14 hs hd hj p.1)
  simp -implicitDefEqProofs only [Stms.ev, Stm.ev, Ex.ev, Ex.evT, Exs.ev, Exs.evAnd, Exs.evOr, Exs.evTAnd, Exs.evTOr, Ox.ev, Ox.evT, Lx.ev, It.ev, v_c, v_bin, v_cmp, v_bl, v_isN, v_ntN, v_not, v_tru, v_asB, v_and, v_or, v_if, v_tup, v_nil, v_cons, v_sub, v_onone, v_osome, v_slice, v_call, v_glb, v_ofE, v_disp, v_cat, v_bi1, v_biL, v_isi, v_inS, v_sidx, v_join, v_subL, v_new, v_dct, v_lenSet, v_yes, v_itL, v_itA, v_itR1, v_itR2, v_lc, q_v_asg, q_v_par, q_v_setD, q_v_expr, q_v_app, q_v_if, q_v_for, q_v_ret, o_add, o_sub, c_lt, c_le, c_gt, c_ge, a_add, R.bind_ok, R.bind_ex, R.bind_bad, R.st_ok, R.st_ex, R.st_bad, RS.seq_nx, RS.seq_rt, RS.seq_ex, RS.seq_bk, RS.seq_ct, RS.seq_bad, optR_some, optR_none, Tg.set, setAll, asB, Lt.truthy, isNon, biLE, getL_tmp, getM_tmp, Option.isSome_some, reduceIte, if_true, if_false, Bool.false_eq_true, Option.map_some, w0, w1, w2, w3, w4, w5, w6, w7, w8, w9, w10, w11, w12, w13, w14, w15, w16, w17, w18, w19, w20, w21, w22, w23, w24, x0, x1, x2, x3, x4, x5, x6, x7, x8, x9, x10, x11, x12, x13, x14, x15, x16, x17, x18, x19, x20, x21, x22, x23, x24, z0, z1, z2, z3, z4, z5, z6, z7, z8, z9, z10, z11, z12, z13, z14, z15, z16, z17, z18, z19, z20, z21, z22, z23, z24, y0, y1, y2, y3, y4, y5, y6, y7, y8, y9, y10, y11, y12, y13, y14, y15, y16, y17, y18, y19, y20, y21, y22, y23, y24, c16_13, len_nats, bi1E, h]
theorem cut_turn {size : Nat} (hs : x.sm) (hd : x.dep ≤ 4) (h : size < (sld x).length) : ∃ J, b16_3.ev (Pn 60) [s0, s1, s2, s3, s4, s5, s6, s7, s8, s9, s10, s11, s12, s13, s14, s15, s16, s17, s18, some (.tup (nats (sld x))), some (.int (size : Int)), s21] H = .nx [s0, s1, s2, s3, s4, s5, s6, s7, s8, s9, s10, s11, s12, s13, s14, s15, s16, s17, s18, some (.tup (nats (sld x))), some (.int (size : Int)), s21] (H ++ J) := by
  obtain ⟨J, h⟩ := sealed_cut (k := 57) (H := H) (by omega) hs hd h
  have h : (Pn 60).cl 10 [.tup (nats ((sld x).take size)), .int 0] H = .ex 0 (H ++ J) := h
  have hc := cut_lo (row := sld x) (b := size)
  refine ⟨J, ?_⟩
  simp -implicitDefEqProofs only [Stms.ev, Stm.ev, Ex.ev, Ex.evT, Exs.ev, Exs.evAnd, Exs.evOr, Exs.evTAnd, Exs.evTOr, Ox.ev, Ox.evT, Lx.ev, It.ev, v_c, v_bin, v_cmp, v_bl, v_isN, v_ntN, v_not, v_tru, v_asB, v_and, v_or, v_if, v_tup, v_nil, v_cons, v_sub, v_onone, v_osome, v_slice, v_call, v_glb, v_ofE, v_disp, v_cat, v_bi1, v_biL, v_isi, v_inS, v_sidx, v_join, v_subL, v_new, v_dct, v_lenSet, v_yes, v_itL, v_itA, v_itR1, v_itR2, v_lc, q_v_asg, q_v_par, q_v_setD, q_v_expr, q_v_app, q_v_if, q_v_for, q_v_ret, o_add, o_sub, c_lt, c_le, c_gt, c_ge, a_add, R.bind_ok, R.bind_ex, R.bind_bad, R.st_ok, R.st_ex, R.st_bad, RS.seq_nx, RS.seq_rt, RS.seq_ex, RS.seq_bk, RS.seq_ct, RS.seq_bad, optR_some, optR_none, Tg.set, setAll, asB, Lt.truthy, isNon, biLE, getL_tmp, getM_tmp, Option.isSome_some, reduceIte, if_true, if_false, Bool.false_eq_true, Option.map_some, w0, w1, w2, w3, w4, w5, w6, w7, w8, w9, w10, w11, w12, w13, w14, w15, w16, w17, w18, w19, w20, w21, w22, w23, w24, x0, x1, x2, x3, x4, x5, x6, x7, x8, x9, x10, x11, x12, x13, x14, x15, x16, x17, x18, x19, x20, x21, x22, x23, x24, z0, z1, z2, z3, z4, z5, z6, z7, z8, z9, z10, z11, z12, z13, z14, z15, z16, z17, z18, z19, z20, z21, z22, z23, z24, y0, y1, y2, y3, y4, y5, y6, y7, y8, y9, y10, y11, y12, y13, y14, y15, y16, y17, y18, y19, y20, y21, y22, y23, y24, b16_3, v_refd, hc, h, rf00, Bool.not_true]
theorem cut_loop {all : List E} (hs : x.sm) (hd : x.dep ≤ 4) : ∀ (m j : Nat) (H : Hq) (v : Option E), j + m ≤ (sld x).length → ∃ v2 J, forS none all (.name ⟨20, "size", ⟨162, 8, 162, 12⟩⟩) (b16_3.ev (Pn 60)) (ups j m) [s0, s1, s2, s3, s4, s5, s6, s7, s8, s9, s10, s11, s12, s13, s14, s15, s16, s17, s18, some (.tup (nats (sld x))), v, s21] H = .nx [s0, s1, s2, s3, s4, s5, s6, s7, s8, s9, s10, s11, s12, s13, s14, s15, s16, s17, s18, some (.tup (nats (sld x))), v2, s21] (H ++ J)
  | 0, j, H, v, _ => ⟨v, [], by rw [List.append_nil]; exact for_end rfl⟩
  | m + 1, j, H, v, h => by
    obtain ⟨J1, h1⟩ := cut_turn (H := H) (s0 := s0) (s1 := s1) (s2 := s2) (s3 := s3) (s4 := s4) (s5 := s5) (s6 := s6) (s7 := s7) (s8 := s8) (s9 := s9) (s10 := s10) (s11 := s11) (s12 := s12) (s13 := s13) (s14 := s14) (s15 := s15) (s16 := s16) (s17 := s17) (s18 := s18) (s21 := s21) (size := j) hs hd (by omega)
    obtain ⟨v2, J2, h2⟩ := cut_loop (all := all) hs hd m (j + 1) (H ++ J1) (some (.int (j : Int))) (by omega)
    refine ⟨v2, J1 ++ J2, ?_⟩
    rw [ups_succ, for_nx (ρ1 := [s0, s1, s2, s3, s4, s5, s6, s7, s8, s9, s10, s11, s12, s13, s14, s15, s16, s17, s18, some (.tup (nats (sld x))), some (.int (j : Int)), s21]) rfl rfl h1, h2, List.append_assoc]
theorem t12 (hs : x.sm) (hd : x.dep ≤ 4) (hT : IsT 2 H) : Good (r16_12.ev (Pn 60) [s0, some (.ref 2), s2, s3, s4, s5, s6, s7, s8, s9, s10, s11, s12, s13, s14, s15, s16, s17, s18, some (.tup (nats (sld x))), s20, s21] H) := by
  have hl := sld_len hs hd
  obtain ⟨v2, J, h⟩ := cut_loop (s0 := s0) (s1 := some (.ref 2)) (s2 := s2) (s3 := s3) (s4 := s4) (s5 := s5) (s6 := s6) (s7 := s7) (s8 := s8) (s9 := s9) (s10 := s10) (s11 := s11) (s12 := s12) (s13 := s13) (s14 := s14) (s15 := s15) (s16 := s16) (s17 := s17) (s18 := s18) (s21 := s21) (all := rng 0 (sld x).length) hs hd (sld x).length 0 H s20 (by omega)
  rw [← rng_ups] at h
  have h : forS none (rng 0 (sld x).length) (.name ⟨20, "size", ⟨162, 8, 162, 12⟩⟩) (b16_3.ev (Pn 60)) (rng 0 (sld x).length) [s0, some (.ref 2), s2, s3, s4, s5, s6, s7, s8, s9, s10, s11, s12, s13, s14, s15, s16, s17, s18, some (.tup (nats (sld x))), s20, s21] H = _ := h
  have hin : in62 ((sld x).length : Int) = true := in62_nat (by omega)
  rw [r16_at12]
  refine Good_seq (ρ := [s0, some (.ref 2), s2, s3, s4, s5, s6, s7, s8, s9, s10, s11, s12, s13, s14, s15, s16, s17, s18, some (.tup (nats (sld x))), v2, s21]) (H := H ++ J) ?_ (t13 hs hd (IsT_app hT))
  simp -implicitDefEqProofs only [Stms.ev, Stm.ev, Ex.ev, Ex.evT, Exs.ev, Exs.evAnd, Exs.evOr, Exs.evTAnd, Exs.evTOr, Ox.ev, Ox.evT, Lx.ev, It.ev, v_c, v_bin, v_cmp, v_bl, v_isN, v_ntN, v_not, v_tru, v_asB, v_and, v_or, v_if, v_tup, v_nil, v_cons, v_sub, v_onone, v_osome, v_slice, v_call, v_glb, v_ofE, v_disp, v_cat, v_bi1, v_biL, v_isi, v_inS, v_sidx, v_join, v_subL, v_new, v_dct, v_lenSet, v_yes, v_itL, v_itA, v_itR1, v_itR2, v_lc, q_v_asg, q_v_par, q_v_setD, q_v_expr, q_v_app, q_v_if, q_v_for, q_v_ret, o_add, o_sub, c_lt, c_le, c_gt, c_ge, a_add, R.bind_ok, R.bind_ex, R.bind_bad, R.st_ok, R.st_ex, R.st_bad, RS.seq_nx, RS.seq_rt, RS.seq_ex, RS.seq_bk, RS.seq_ct, RS.seq_bad, optR_some, optR_none, Tg.set, setAll, asB, Lt.truthy, isNon, biLE, getL_tmp, getM_tmp, Option.isSome_some, reduceIte, if_true, if_false, Bool.false_eq_true, Option.map_some, w0, w1, w2, w3, w4, w5, w6, w7, w8, w9, w10, w11, w12, w13, w14, w15, w16, w17, w18, w19, w20, w21, w22, w23, w24, x0, x1, x2, x3, x4, x5, x6, x7, x8, x9, x10, x11, x12, x13, x14, x15, x16, x17, x18, x19, x20, x21, x22, x23, x24, z0, z1, z2, z3, z4, z5, z6, z7, z8, z9, z10, z11, z12, z13, z14, z15, z16, z17, z18, z19, z20, z21, z22, z23, z24, y0, y1, y2, y3, y4, y5, y6, y7, y8, y9, y10, y11, y12, y13, y14, y15, y16, y17, y18, y19, y20, y21, y22, y23, y24, c16_12, len_nats, bi1E, intE, hin, Int.toNat_natCast, h]
theorem both_Sh (hs : x.sm) (hd : x.dep ≤ 4) (gs : y.sm) (gd : y.dep ≤ 4) : Sh (sld x ++ sld y) := by
  have h := Sh_sld (r := []) gs gd trivial
  rw [List.append_nil] at h
  exact Sh_sld hs hd h
theorem t11 (hs : x.sm) (hd : x.dep ≤ 4) (gs : y.sm) (gd : y.dep ≤ 4) (hT : IsT 2 H) : Good (r16_11.ev (Pn 60) [s0, some (.ref 2), some (x.e), some (y.e), s4, s5, s6, s7, s8, some (.tup (nats (sld x ++ sld y))), some (x.e), some (.int ((sld x).length : Int)), s12, s13, s14, s15, s16, s17, s18, some (.tup (nats (sld x))), s20, s21] H) := by
  have hl := sld_len hs hd
  have gl := sld_len gs gd
  have h1 := sealed_okN (k := 57) (at0 := (sld x).length) (row := sld x ++ sld y) (l := []) (x := y) (H := H) (by omega) (by rw [List.length_append]; omega) (by omega) (by
    rw [List.drop_left]
    have := dsld_sld (x := y) (r := []) (by omega) (fit_of y gs)
    rw [List.append_nil] at this
    exact this) (both_Sh hs hd gs gd)
  have h1 : (Pn 60).cl 10 [.tup (nats (sld x ++ sld y)), .int ((sld x).length : Int)] H = .ok (.tup [y.e, .int ((sld x ++ sld y).length : Int)]) H := h1
  have n1 := ne_th (x := x) (by omega)
  have n2 := ne_pair (x := y) (n := ((sld x ++ sld y).length : Int)) (by omega)
  have g2 : ∀ x y : E, [x, y].length ≤ sizeLine := fun x y => le_line (by simp)
  rw [r16_at11]
  refine Good_seq (ρ := [s0, some (.ref 2), some (x.e), some (y.e), s4, s5, s6, s7, s8, some (.tup (nats (sld x ++ sld y))), some (x.e), some (.int ((sld x).length : Int)), s12, s13, s14, s15, s16, s17, s18, some (.tup (nats (sld x))), s20, s21]) (H := H) ?_ (t12 hs hd hT)
  simp -implicitDefEqProofs only [Stms.ev, Stm.ev, Ex.ev, Ex.evT, Exs.ev, Exs.evAnd, Exs.evOr, Exs.evTAnd, Exs.evTOr, Ox.ev, Ox.evT, Lx.ev, It.ev, v_c, v_bin, v_cmp, v_bl, v_isN, v_ntN, v_not, v_tru, v_asB, v_and, v_or, v_if, v_tup, v_nil, v_cons, v_sub, v_onone, v_osome, v_slice, v_call, v_glb, v_ofE, v_disp, v_cat, v_bi1, v_biL, v_isi, v_inS, v_sidx, v_join, v_subL, v_new, v_dct, v_lenSet, v_yes, v_itL, v_itA, v_itR1, v_itR2, v_lc, q_v_asg, q_v_par, q_v_setD, q_v_expr, q_v_app, q_v_if, q_v_for, q_v_ret, o_add, o_sub, c_lt, c_le, c_gt, c_ge, a_add, R.bind_ok, R.bind_ex, R.bind_bad, R.st_ok, R.st_ex, R.st_bad, RS.seq_nx, RS.seq_rt, RS.seq_ex, RS.seq_bk, RS.seq_ct, RS.seq_bad, optR_some, optR_none, Tg.set, setAll, asB, Lt.truthy, isNon, biLE, getL_tmp, getM_tmp, Option.isSome_some, reduceIte, if_true, if_false, Bool.false_eq_true, Option.map_some, w0, w1, w2, w3, w4, w5, w6, w7, w8, w9, w10, w11, w12, w13, w14, w15, w16, w17, w18, w19, w20, w21, w22, w23, w24, x0, x1, x2, x3, x4, x5, x6, x7, x8, x9, x10, x11, x12, x13, x14, x15, x16, x17, x18, x19, x20, x21, x22, x23, x24, z0, z1, z2, z3, z4, z5, z6, z7, z8, z9, z10, z11, z12, z13, z14, z15, z16, z17, z18, z19, z20, z21, z22, z23, z24, y0, y1, y2, y3, y4, y5, y6, y7, y8, y9, y10, y11, y12, y13, y14, y15, y16, y17, y18, y19, y20, y21, y22, y23, y24, c16_11, n1, h1, len_nats, bi1E, g2, n2]
theorem t10 (hs : x.sm) (hd : x.dep ≤ 4) (gs : y.sm) (gd : y.dep ≤ 4) (hT : IsT 2 H) : Good (r16_10.ev (Pn 60) [s0, some (.ref 2), some (x.e), some (y.e), s4, s5, s6, s7, s8, some (.tup (nats (sld x ++ sld y))), s10, s11, s12, s13, s14, s15, s16, s17, s18, some (.tup (nats (sld x))), s20, s21] H) := by
  have hl := sld_len hs hd
  have gl := sld_len gs gd
  have h1 := sealed_okN (k := 57) (at0 := 0) (row := sld x ++ sld y) (l := sld y) (x := x) (H := H) (by omega) (by rw [List.length_append]; omega) (by omega) (by
    rw [List.drop_zero]
    exact dsld_sld (by omega) (fit_of x hs)) (both_Sh hs hd gs gd)
  rw [show (sld x ++ sld y).length - (sld y).length = (sld x).length by rw [List.length_append]; omega] at h1
  have h1 : (Pn 60).cl 10 [.tup (nats (sld x ++ sld y)), .int 0] H = .ok (.tup [x.e, .int ((sld x).length : Int)]) H := h1
  rw [r16_at10]
  refine Good_seq (ρ := [s0, some (.ref 2), some (x.e), some (y.e), s4, s5, s6, s7, s8, some (.tup (nats (sld x ++ sld y))), some (x.e), some (.int ((sld x).length : Int)), s12, s13, s14, s15, s16, s17, s18, some (.tup (nats (sld x))), s20, s21]) (H := H) ?_ (t11 hs hd gs gd hT)
  simp -implicitDefEqProofs only [Stms.ev, Stm.ev, Ex.ev, Ex.evT, Exs.ev, Exs.evAnd, Exs.evOr, Exs.evTAnd, Exs.evTOr, Ox.ev, Ox.evT, Lx.ev, It.ev, v_c, v_bin, v_cmp, v_bl, v_isN, v_ntN, v_not, v_tru, v_asB, v_and, v_or, v_if, v_tup, v_nil, v_cons, v_sub, v_onone, v_osome, v_slice, v_call, v_glb, v_ofE, v_disp, v_cat, v_bi1, v_biL, v_isi, v_inS, v_sidx, v_join, v_subL, v_new, v_dct, v_lenSet, v_yes, v_itL, v_itA, v_itR1, v_itR2, v_lc, q_v_asg, q_v_par, q_v_setD, q_v_expr, q_v_app, q_v_if, q_v_for, q_v_ret, o_add, o_sub, c_lt, c_le, c_gt, c_ge, a_add, R.bind_ok, R.bind_ex, R.bind_bad, R.st_ok, R.st_ex, R.st_bad, RS.seq_nx, RS.seq_rt, RS.seq_ex, RS.seq_bk, RS.seq_ct, RS.seq_bad, optR_some, optR_none, Tg.set, setAll, asB, Lt.truthy, isNon, biLE, getL_tmp, getM_tmp, Option.isSome_some, reduceIte, if_true, if_false, Bool.false_eq_true, Option.map_some, w0, w1, w2, w3, w4, w5, w6, w7, w8, w9, w10, w11, w12, w13, w14, w15, w16, w17, w18, w19, w20, w21, w22, w23, w24, x0, x1, x2, x3, x4, x5, x6, x7, x8, x9, x10, x11, x12, x13, x14, x15, x16, x17, x18, x19, x20, x21, x22, x23, x24, z0, z1, z2, z3, z4, z5, z6, z7, z8, z9, z10, z11, z12, z13, z14, z15, z16, z17, z18, z19, z20, z21, z22, z23, z24, y0, y1, y2, y3, y4, y5, y6, y7, y8, y9, y10, y11, y12, y13, y14, y15, y16, y17, y18, y19, y20, y21, y22, y23, y24, c16_10, h1]
theorem t9 (hs : x.sm) (hd : x.dep ≤ 4) (gs : y.sm) (gd : y.dep ≤ 4) (hT : IsT 2 H) : Good (r16_9.ev (Pn 60) [s0, some (.ref 2), some (x.e), some (y.e), s4, s5, s6, s7, s8, s9, s10, s11, s12, s13, s14, s15, s16, s17, s18, some (.tup (nats (sld x))), s20, s21] H) := by
  have hl := sld_len hs hd
  have gl := sld_len gs gd
  have g188 := enc_188 gs gd
  have h1 := put_sealed_ok (k := 57) (th := y) (H := H) (by omega) (by omega) (fit_of y gs) (by omega)
  rw [← par_cl] at h1
  have h1 : (Pn 60).cl 9 [y.e] H = .ok (.tup (nats (sld y))) H := h1
  have a1 : binop .add (.tup (nats (sld x))) (.tup (nats (sld y))) = some (.tup (nats (sld x ++ sld y))) := by
    rw [o_addT (by rw [nats_len, nats_len]; omega), ← nats_app]
  rw [r16_at9]
  refine Good_seq (ρ := [s0, some (.ref 2), some (x.e), some (y.e), s4, s5, s6, s7, s8, some (.tup (nats (sld x ++ sld y))), s10, s11, s12, s13, s14, s15, s16, s17, s18, some (.tup (nats (sld x))), s20, s21]) (H := H) ?_ (t10 hs hd gs gd hT)
  simp -implicitDefEqProofs only [Stms.ev, Stm.ev, Ex.ev, Ex.evT, Exs.ev, Exs.evAnd, Exs.evOr, Exs.evTAnd, Exs.evTOr, Ox.ev, Ox.evT, Lx.ev, It.ev, v_c, v_bin, v_cmp, v_bl, v_isN, v_ntN, v_not, v_tru, v_asB, v_and, v_or, v_if, v_tup, v_nil, v_cons, v_sub, v_onone, v_osome, v_slice, v_call, v_glb, v_ofE, v_disp, v_cat, v_bi1, v_biL, v_isi, v_inS, v_sidx, v_join, v_subL, v_new, v_dct, v_lenSet, v_yes, v_itL, v_itA, v_itR1, v_itR2, v_lc, q_v_asg, q_v_par, q_v_setD, q_v_expr, q_v_app, q_v_if, q_v_for, q_v_ret, o_add, o_sub, c_lt, c_le, c_gt, c_ge, a_add, R.bind_ok, R.bind_ex, R.bind_bad, R.st_ok, R.st_ex, R.st_bad, RS.seq_nx, RS.seq_rt, RS.seq_ex, RS.seq_bk, RS.seq_ct, RS.seq_bad, optR_some, optR_none, Tg.set, setAll, asB, Lt.truthy, isNon, biLE, getL_tmp, getM_tmp, Option.isSome_some, reduceIte, if_true, if_false, Bool.false_eq_true, Option.map_some, w0, w1, w2, w3, w4, w5, w6, w7, w8, w9, w10, w11, w12, w13, w14, w15, w16, w17, w18, w19, w20, w21, w22, w23, w24, x0, x1, x2, x3, x4, x5, x6, x7, x8, x9, x10, x11, x12, x13, x14, x15, x16, x17, x18, x19, x20, x21, x22, x23, x24, z0, z1, z2, z3, z4, z5, z6, z7, z8, z9, z10, z11, z12, z13, z14, z15, z16, z17, z18, z19, z20, z21, z22, z23, z24, y0, y1, y2, y3, y4, y5, y6, y7, y8, y9, y10, y11, y12, y13, y14, y15, y16, y17, y18, y19, y20, y21, y22, y23, y24, c16_9, h1, a1]
theorem t8 (hs : x.sm) (hd : x.dep ≤ 4) (gs : y.sm) (gd : y.dep ≤ 4) (hT : IsT 2 H) : Good (r16_8.ev (Pn 60) [s0, some (.ref 2), some (x.e), some (y.e), some (.tup (nats (enc x))), s5, s6, s7, some (.int (csum (enc x) : Int)), s9, s10, s11, s12, s13, s14, s15, s16, s17, s18, some (.tup (nats (sld x))), s20, s21] H) := by
  have hl := sld_len hs hd
  have g188 := enc_188 hs hd
  have h1 := put_sealed_ok (k := 57) (th := x) (H := H) (by omega) (by omega) (fit_of x hs) (by omega)
  rw [← par_cl] at h1
  have h1 : (Pn 60).cl 9 [x.e] H = .ok (.tup (nats (sld x))) H := h1
  have h2 := check_sum_ok (k := 59) (row := enc x) (H := H)
  rw [← par_cl] at h2
  have h2 : (Pn 60).cl 8 [.tup (nats (enc x))] H = .ok (.int (csum (enc x) : Int)) H := h2
  have h3 := check_sum_ok (k := 59) (row := []) (H := H)
  rw [← par_cl, csum_nil] at h3
  have h3 : (Pn 60).cl 8 [.tup []] H = .ok (.int 1) H := h3
  have h4 := sealed_okN (k := 57) (at0 := 0) (row := sld x) (l := []) (x := x) (H := H) (by omega) (by omega) (by omega) (by
    rw [List.drop_zero]
    have := dsld_sld (x := x) (r := []) (by omega) (fit_of x hs)
    rw [List.append_nil] at this
    exact this) (by
    have h := Sh_sld (r := []) hs hd trivial
    rw [List.append_nil] at h
    exact h)
  have h4 : (Pn 60).cl 10 [.tup (nats (sld x)), .int 0] H = .ok (.tup [x.e, .int ((sld x).length : Int)]) H := h4
  have n1 := ne_num (n := (csum (enc x) : Int))
  have n2 := ne_nats (l := sld x)
  have n3 := ne_pair (x := x) (n := ((sld x).length : Int)) (by omega)
  have n4 := ne_num (n := 1)
  have g0 : ([] : List E).length ≤ sizeLine := le_line (by simp)
  have g2 : ∀ x y : E, [x, y].length ≤ sizeLine := fun x y => le_line (by simp)
  rw [r16_at8]
  refine Good_seq (ρ := [s0, some (.ref 2), some (x.e), some (y.e), some (.tup (nats (enc x))), s5, s6, s7, some (.int (csum (enc x) : Int)), s9, s10, s11, s12, s13, s14, s15, s16, s17, s18, some (.tup (nats (sld x))), s20, s21]) (H := H) ?_ (t9 hs hd gs gd hT)
  simp -implicitDefEqProofs only [Stms.ev, Stm.ev, Ex.ev, Ex.evT, Exs.ev, Exs.evAnd, Exs.evOr, Exs.evTAnd, Exs.evTOr, Ox.ev, Ox.evT, Lx.ev, It.ev, v_c, v_bin, v_cmp, v_bl, v_isN, v_ntN, v_not, v_tru, v_asB, v_and, v_or, v_if, v_tup, v_nil, v_cons, v_sub, v_onone, v_osome, v_slice, v_call, v_glb, v_ofE, v_disp, v_cat, v_bi1, v_biL, v_isi, v_inS, v_sidx, v_join, v_subL, v_new, v_dct, v_lenSet, v_yes, v_itL, v_itA, v_itR1, v_itR2, v_lc, q_v_asg, q_v_par, q_v_setD, q_v_expr, q_v_app, q_v_if, q_v_for, q_v_ret, o_add, o_sub, c_lt, c_le, c_gt, c_ge, a_add, R.bind_ok, R.bind_ex, R.bind_bad, R.st_ok, R.st_ex, R.st_bad, RS.seq_nx, RS.seq_rt, RS.seq_ex, RS.seq_bk, RS.seq_ct, RS.seq_bad, optR_some, optR_none, Tg.set, setAll, asB, Lt.truthy, isNon, biLE, getL_tmp, getM_tmp, Option.isSome_some, reduceIte, if_true, if_false, Bool.false_eq_true, Option.map_some, w0, w1, w2, w3, w4, w5, w6, w7, w8, w9, w10, w11, w12, w13, w14, w15, w16, w17, w18, w19, w20, w21, w22, w23, w24, x0, x1, x2, x3, x4, x5, x6, x7, x8, x9, x10, x11, x12, x13, x14, x15, x16, x17, x18, x19, x20, x21, x22, x23, x24, z0, z1, z2, z3, z4, z5, z6, z7, z8, z9, z10, z11, z12, z13, z14, z15, z16, z17, z18, z19, z20, z21, z22, z23, z24, y0, y1, y2, y3, y4, y5, y6, y7, y8, y9, y10, y11, y12, y13, y14, y15, y16, y17, y18, y19, y20, y21, y22, y23, y24, c16_8, h2, n1, h1, n2, h4, len_nats, bi1E, g2, n3, g0, h3, n4]
theorem t7 (hs : x.sm) (hd : x.dep ≤ 4) (gs : y.sm) (gd : y.dep ≤ 4) (hT : IsT 2 H) : Good (r16_7.ev (Pn 60) [s0, some (.ref 2), some (x.e), some (y.e), some (.tup (nats (enc x))), s5, s6, s7, some (.int (csum (enc x) : Int)), s9, s10, s11, s12, s13, s14, s15, s16, s17, s18, s19, s20, s21] H) := by
  have hl := sld_len hs hd
  have g188 := enc_188 hs hd
  have c32 := csum_32 (enc x)
  have h1 := law_number_ok (k := 59) (n := (enc x).length) (H := H) (small100 (small9 (by omega)))
  rw [← par_cl] at h1
  have h1 : (Pn 60).cl 14 [.int ((enc x).length : Int)] H = .ok (.tup (nats (num (enc x).length))) H := h1
  have h2 := law_number_ok (k := 59) (n := csum (enc x)) (H := H) (small100 (by omega))
  rw [← par_cl] at h2
  have h2 : (Pn 60).cl 14 [.int (csum (enc x) : Int)] H = .ok (.tup (nats (num (csum (enc x))))) H := h2
  have e : (sld x).length = (num (enc x).length).length + (num (csum (enc x))).length + (enc x).length := by
    unfold sld
    rw [List.length_append, List.length_append]
  have a1 : binop .add (.tup (nats (num (enc x).length))) (.tup (nats (num (csum (enc x))))) = some (.tup (nats (num (enc x).length ++ num (csum (enc x))))) := by
    rw [o_addT (by rw [nats_len, nats_len]; omega), ← nats_app]
  have a2 : binop .add (.tup (nats (num (enc x).length ++ num (csum (enc x))))) (.tup (nats (enc x))) = some (.tup (nats (sld x))) := by
    rw [o_addT (by rw [nats_len, nats_len, List.length_append]; omega), ← nats_app]
    rfl
  rw [r16_at7]
  refine Good_seq (ρ := [s0, some (.ref 2), some (x.e), some (y.e), some (.tup (nats (enc x))), s5, s6, s7, some (.int (csum (enc x) : Int)), s9, s10, s11, s12, s13, s14, s15, s16, s17, s18, some (.tup (nats (sld x))), s20, s21]) (H := H) ?_ (t8 hs hd gs gd hT)
  simp -implicitDefEqProofs only [Stms.ev, Stm.ev, Ex.ev, Ex.evT, Exs.ev, Exs.evAnd, Exs.evOr, Exs.evTAnd, Exs.evTOr, Ox.ev, Ox.evT, Lx.ev, It.ev, v_c, v_bin, v_cmp, v_bl, v_isN, v_ntN, v_not, v_tru, v_asB, v_and, v_or, v_if, v_tup, v_nil, v_cons, v_sub, v_onone, v_osome, v_slice, v_call, v_glb, v_ofE, v_disp, v_cat, v_bi1, v_biL, v_isi, v_inS, v_sidx, v_join, v_subL, v_new, v_dct, v_lenSet, v_yes, v_itL, v_itA, v_itR1, v_itR2, v_lc, q_v_asg, q_v_par, q_v_setD, q_v_expr, q_v_app, q_v_if, q_v_for, q_v_ret, o_add, o_sub, c_lt, c_le, c_gt, c_ge, a_add, R.bind_ok, R.bind_ex, R.bind_bad, R.st_ok, R.st_ex, R.st_bad, RS.seq_nx, RS.seq_rt, RS.seq_ex, RS.seq_bk, RS.seq_ct, RS.seq_bad, optR_some, optR_none, Tg.set, setAll, asB, Lt.truthy, isNon, biLE, getL_tmp, getM_tmp, Option.isSome_some, reduceIte, if_true, if_false, Bool.false_eq_true, Option.map_some, w0, w1, w2, w3, w4, w5, w6, w7, w8, w9, w10, w11, w12, w13, w14, w15, w16, w17, w18, w19, w20, w21, w22, w23, w24, x0, x1, x2, x3, x4, x5, x6, x7, x8, x9, x10, x11, x12, x13, x14, x15, x16, x17, x18, x19, x20, x21, x22, x23, x24, z0, z1, z2, z3, z4, z5, z6, z7, z8, z9, z10, z11, z12, z13, z14, z15, z16, z17, z18, z19, z20, z21, z22, z23, z24, y0, y1, y2, y3, y4, y5, y6, y7, y8, y9, y10, y11, y12, y13, y14, y15, y16, y17, y18, y19, y20, y21, y22, y23, y24, c16_7, len_nats, bi1E, h1, h2, a1, a2]
theorem t6 (hs : x.sm) (hd : x.dep ≤ 4) (gs : y.sm) (gd : y.dep ≤ 4) (hT : IsT 2 H) : Good (r16_6.ev (Pn 60) [s0, some (.ref 2), some (x.e), some (y.e), some (.tup (nats (enc x))), some (.int ((sgo (enc x) 1 0).1 : Int)), some (.int ((sgo (enc x) 1 0).2 : Int)), s7, s8, s9, s10, s11, s12, s13, s14, s15, s16, s17, s18, s19, s20, s21] H) := by
  have e : (((sgo (enc x) 1 0).2 : Int) % 65521 * 65521 + ((sgo (enc x) 1 0).1 : Int) % 65521) = (csum (enc x) : Int) := by
    rw [csum_sgo]
    omega
  have m : mulOk (((sgo (enc x) 1 0).2 : Int) % 65521) 65521 = true := mulOk_r (by decide)
  have q : (0 : Int) < 65521 := by decide
  rw [r16_at6]
  refine Good_seq (ρ := [s0, some (.ref 2), some (x.e), some (y.e), some (.tup (nats (enc x))), some (.int ((sgo (enc x) 1 0).1 : Int)), some (.int ((sgo (enc x) 1 0).2 : Int)), s7, some (.int (csum (enc x) : Int)), s9, s10, s11, s12, s13, s14, s15, s16, s17, s18, s19, s20, s21]) (H := H) ?_ (t7 hs hd gs gd hT)
  simp -implicitDefEqProofs only [Stms.ev, Stm.ev, Ex.ev, Ex.evT, Exs.ev, Exs.evAnd, Exs.evOr, Exs.evTAnd, Exs.evTOr, Ox.ev, Ox.evT, Lx.ev, It.ev, v_c, v_bin, v_cmp, v_bl, v_isN, v_ntN, v_not, v_tru, v_asB, v_and, v_or, v_if, v_tup, v_nil, v_cons, v_sub, v_onone, v_osome, v_slice, v_call, v_glb, v_ofE, v_disp, v_cat, v_bi1, v_biL, v_isi, v_inS, v_sidx, v_join, v_subL, v_new, v_dct, v_lenSet, v_yes, v_itL, v_itA, v_itR1, v_itR2, v_lc, q_v_asg, q_v_par, q_v_setD, q_v_expr, q_v_app, q_v_if, q_v_for, q_v_ret, o_add, o_sub, c_lt, c_le, c_gt, c_ge, a_add, R.bind_ok, R.bind_ex, R.bind_bad, R.st_ok, R.st_ex, R.st_bad, RS.seq_nx, RS.seq_rt, RS.seq_ex, RS.seq_bk, RS.seq_ct, RS.seq_bad, optR_some, optR_none, Tg.set, setAll, asB, Lt.truthy, isNon, biLE, getL_tmp, getM_tmp, Option.isSome_some, reduceIte, if_true, if_false, Bool.false_eq_true, Option.map_some, w0, w1, w2, w3, w4, w5, w6, w7, w8, w9, w10, w11, w12, w13, w14, w15, w16, w17, w18, w19, w20, w21, w22, w23, w24, x0, x1, x2, x3, x4, x5, x6, x7, x8, x9, x10, x11, x12, x13, x14, x15, x16, x17, x18, x19, x20, x21, x22, x23, x24, z0, z1, z2, z3, z4, z5, z6, z7, z8, z9, z10, z11, z12, z13, z14, z15, z16, z17, z18, z19, z20, z21, z22, z23, z24, y0, y1, y2, y3, y4, y5, y6, y7, y8, y9, y10, y11, y12, y13, y14, y15, y16, y17, y18, y19, y20, y21, y22, y23, y24, c16_6, bi1E, o_mod q, o_mul m, e]
theorem low_turn {lo hi a : Nat} : b16_4.ev (Pn 60) [s0, s1, s2, s3, s4, some (.int (lo : Int)), some (.int (hi : Int)), some (.int (a : Int)), s8, s9, s10, s11, s12, s13, s14, s15, s16, s17, s18, s19, s20, s21] H = .nx [s0, s1, s2, s3, s4, some (.int ((lo + a : Nat) : Int)), some (.int ((hi + (lo + a) : Nat) : Int)), some (.int (a : Int)), s8, s9, s10, s11, s12, s13, s14, s15, s16, s17, s18, s19, s20, s21] H := by
  rw [Int.natCast_add hi, Int.natCast_add lo]
  simp -implicitDefEqProofs only [Stms.ev, Stm.ev, Ex.ev, Ex.evT, Exs.ev, Exs.evAnd, Exs.evOr, Exs.evTAnd, Exs.evTOr, Ox.ev, Ox.evT, Lx.ev, It.ev, v_c, v_bin, v_cmp, v_bl, v_isN, v_ntN, v_not, v_tru, v_asB, v_and, v_or, v_if, v_tup, v_nil, v_cons, v_sub, v_onone, v_osome, v_slice, v_call, v_glb, v_ofE, v_disp, v_cat, v_bi1, v_biL, v_isi, v_inS, v_sidx, v_join, v_subL, v_new, v_dct, v_lenSet, v_yes, v_itL, v_itA, v_itR1, v_itR2, v_lc, q_v_asg, q_v_par, q_v_setD, q_v_expr, q_v_app, q_v_if, q_v_for, q_v_ret, o_add, o_sub, c_lt, c_le, c_gt, c_ge, a_add, R.bind_ok, R.bind_ex, R.bind_bad, R.st_ok, R.st_ex, R.st_bad, RS.seq_nx, RS.seq_rt, RS.seq_ex, RS.seq_bk, RS.seq_ct, RS.seq_bad, optR_some, optR_none, Tg.set, setAll, asB, Lt.truthy, isNon, biLE, getL_tmp, getM_tmp, Option.isSome_some, reduceIte, if_true, if_false, Bool.false_eq_true, Option.map_some, w0, w1, w2, w3, w4, w5, w6, w7, w8, w9, w10, w11, w12, w13, w14, w15, w16, w17, w18, w19, w20, w21, w22, w23, w24, x0, x1, x2, x3, x4, x5, x6, x7, x8, x9, x10, x11, x12, x13, x14, x15, x16, x17, x18, x19, x20, x21, x22, x23, x24, z0, z1, z2, z3, z4, z5, z6, z7, z8, z9, z10, z11, z12, z13, z14, z15, z16, z17, z18, z19, z20, z21, z22, z23, z24, y0, y1, y2, y3, y4, y5, y6, y7, y8, y9, y10, y11, y12, y13, y14, y15, y16, y17, y18, y19, y20, y21, y22, y23, y24, b16_4]
theorem low_loop {all : List E} : ∀ (l : List Nat) (lo hi : Nat) (v : Option E), ∃ v2, forS none all (.name ⟨7, "a", ⟨151, 8, 151, 9⟩⟩) (b16_4.ev (Pn 60)) (nats l) [s0, s1, s2, s3, s4, some (.int (lo : Int)), some (.int (hi : Int)), v, s8, s9, s10, s11, s12, s13, s14, s15, s16, s17, s18, s19, s20, s21] H = .nx [s0, s1, s2, s3, s4, some (.int ((sgo l lo hi).1 : Int)), some (.int ((sgo l lo hi).2 : Int)), v2, s8, s9, s10, s11, s12, s13, s14, s15, s16, s17, s18, s19, s20, s21] H
  | [], lo, hi, v => ⟨v, for_end rfl⟩
  | a :: l, lo, hi, v => by
    obtain ⟨v2, h⟩ := low_loop (all := all) l (lo + a) (hi + (lo + a)) (some (.int (a : Int)))
    refine ⟨v2, ?_⟩
    rw [nats_cons, for_nx (ρ1 := [s0, s1, s2, s3, s4, some (.int (lo : Int)), some (.int (hi : Int)), some (.int (a : Int)), s8, s9, s10, s11, s12, s13, s14, s15, s16, s17, s18, s19, s20, s21]) rfl rfl low_turn, h]
    rfl
theorem t5 (hs : x.sm) (hd : x.dep ≤ 4) (gs : y.sm) (gd : y.dep ≤ 4) (hT : IsT 2 H) : Good (r16_5.ev (Pn 60) [s0, some (.ref 2), some (x.e), some (y.e), some (.tup (nats (enc x))), some (.int 1), some (.int 0), s7, s8, s9, s10, s11, s12, s13, s14, s15, s16, s17, s18, s19, s20, s21] H) := by
  obtain ⟨v2, h⟩ := low_loop (H := H) (s0 := s0) (s1 := some (.ref 2)) (s2 := some x.e) (s3 := some y.e) (s4 := some (.tup (nats (enc x)))) (s8 := s8) (s9 := s9) (s10 := s10) (s11 := s11) (s12 := s12) (s13 := s13) (s14 := s14) (s15 := s15) (s16 := s16) (s17 := s17) (s18 := s18) (s19 := s19) (s20 := s20) (s21 := s21) (all := nats (enc x)) (enc x) 1 0 s7
  have h : forS none (nats (enc x)) (.name ⟨7, "a", ⟨151, 8, 151, 9⟩⟩) (b16_4.ev (Pn 60)) (nats (enc x)) [s0, some (.ref 2), some (x.e), some (y.e), some (.tup (nats (enc x))), some (.int 1), some (.int 0), s7, s8, s9, s10, s11, s12, s13, s14, s15, s16, s17, s18, s19, s20, s21] H = _ := h
  rw [r16_at5]
  refine Good_seq (ρ := [s0, some (.ref 2), some (x.e), some (y.e), some (.tup (nats (enc x))), some (.int ((sgo (enc x) 1 0).1 : Int)), some (.int ((sgo (enc x) 1 0).2 : Int)), v2, s8, s9, s10, s11, s12, s13, s14, s15, s16, s17, s18, s19, s20, s21]) (H := H) ?_ (t6 hs hd gs gd hT)
  simp -implicitDefEqProofs only [Stms.ev, Stm.ev, Ex.ev, Ex.evT, Exs.ev, Exs.evAnd, Exs.evOr, Exs.evTAnd, Exs.evTOr, Ox.ev, Ox.evT, Lx.ev, It.ev, v_c, v_bin, v_cmp, v_bl, v_isN, v_ntN, v_not, v_tru, v_asB, v_and, v_or, v_if, v_tup, v_nil, v_cons, v_sub, v_onone, v_osome, v_slice, v_call, v_glb, v_ofE, v_disp, v_cat, v_bi1, v_biL, v_isi, v_inS, v_sidx, v_join, v_subL, v_new, v_dct, v_lenSet, v_yes, v_itL, v_itA, v_itR1, v_itR2, v_lc, q_v_asg, q_v_par, q_v_setD, q_v_expr, q_v_app, q_v_if, q_v_for, q_v_ret, o_add, o_sub, c_lt, c_le, c_gt, c_ge, a_add, R.bind_ok, R.bind_ex, R.bind_bad, R.st_ok, R.st_ex, R.st_bad, RS.seq_nx, RS.seq_rt, RS.seq_ex, RS.seq_bk, RS.seq_ct, RS.seq_bad, optR_some, optR_none, Tg.set, setAll, asB, Lt.truthy, isNon, biLE, getL_tmp, getM_tmp, Option.isSome_some, reduceIte, if_true, if_false, Bool.false_eq_true, Option.map_some, w0, w1, w2, w3, w4, w5, w6, w7, w8, w9, w10, w11, w12, w13, w14, w15, w16, w17, w18, w19, w20, w21, w22, w23, w24, x0, x1, x2, x3, x4, x5, x6, x7, x8, x9, x10, x11, x12, x13, x14, x15, x16, x17, x18, x19, x20, x21, x22, x23, x24, z0, z1, z2, z3, z4, z5, z6, z7, z8, z9, z10, z11, z12, z13, z14, z15, z16, z17, z18, z19, z20, z21, z22, z23, z24, y0, y1, y2, y3, y4, y5, y6, y7, y8, y9, y10, y11, y12, y13, y14, y15, y16, y17, y18, y19, y20, y21, y22, y23, y24, c16_5, itE, h]
theorem t4 (hs : x.sm) (hd : x.dep ≤ 4) (gs : y.sm) (gd : y.dep ≤ 4) (hT : IsT 2 H) : Good (r16_4.ev (Pn 60) [s0, some (.ref 2), some (x.e), some (y.e), some (.tup (nats (enc x))), s5, s6, s7, s8, s9, s10, s11, s12, s13, s14, s15, s16, s17, s18, s19, s20, s21] H) := by
  have g2 : ∀ x y : E, [x, y].length ≤ sizeLine := fun x y => le_line (by simp)
  rw [r16_at4]
  refine Good_seq (ρ := [s0, some (.ref 2), some (x.e), some (y.e), some (.tup (nats (enc x))), some (.int 1), some (.int 0), s7, s8, s9, s10, s11, s12, s13, s14, s15, s16, s17, s18, s19, s20, s21]) (H := H) ?_ (t5 hs hd gs gd hT)
  simp -implicitDefEqProofs only [Stms.ev, Stm.ev, Ex.ev, Ex.evT, Exs.ev, Exs.evAnd, Exs.evOr, Exs.evTAnd, Exs.evTOr, Ox.ev, Ox.evT, Lx.ev, It.ev, v_c, v_bin, v_cmp, v_bl, v_isN, v_ntN, v_not, v_tru, v_asB, v_and, v_or, v_if, v_tup, v_nil, v_cons, v_sub, v_onone, v_osome, v_slice, v_call, v_glb, v_ofE, v_disp, v_cat, v_bi1, v_biL, v_isi, v_inS, v_sidx, v_join, v_subL, v_new, v_dct, v_lenSet, v_yes, v_itL, v_itA, v_itR1, v_itR2, v_lc, q_v_asg, q_v_par, q_v_setD, q_v_expr, q_v_app, q_v_if, q_v_for, q_v_ret, o_add, o_sub, c_lt, c_le, c_gt, c_ge, a_add, R.bind_ok, R.bind_ex, R.bind_bad, R.st_ok, R.st_ex, R.st_bad, RS.seq_nx, RS.seq_rt, RS.seq_ex, RS.seq_bk, RS.seq_ct, RS.seq_bad, optR_some, optR_none, Tg.set, setAll, asB, Lt.truthy, isNon, biLE, getL_tmp, getM_tmp, Option.isSome_some, reduceIte, if_true, if_false, Bool.false_eq_true, Option.map_some, w0, w1, w2, w3, w4, w5, w6, w7, w8, w9, w10, w11, w12, w13, w14, w15, w16, w17, w18, w19, w20, w21, w22, w23, w24, x0, x1, x2, x3, x4, x5, x6, x7, x8, x9, x10, x11, x12, x13, x14, x15, x16, x17, x18, x19, x20, x21, x22, x23, x24, z0, z1, z2, z3, z4, z5, z6, z7, z8, z9, z10, z11, z12, z13, z14, z15, z16, z17, z18, z19, z20, z21, z22, z23, z24, y0, y1, y2, y3, y4, y5, y6, y7, y8, y9, y10, y11, y12, y13, y14, y15, y16, y17, y18, y19, y20, y21, y22, y23, y24, c16_4, g2]
theorem t3 (hs : x.sm) (hd : x.dep ≤ 4) (gs : y.sm) (gd : y.dep ≤ 4) (hT : IsT 2 H) : Good (r16_3.ev (Pn 60) [s0, some (.ref 2), some (x.e), some (y.e), some (.tup (nats (enc x))), s5, s6, s7, s8, s9, s10, s11, s12, s13, s14, s15, s16, s17, s18, s19, s20, s21] H) := by
  have g188 := enc_188 hs hd
  have hS : Sh (enc x) := by
    have := Sh_enc x [] hs trivial
    rw [List.append_nil] at this
    exact this
  have hde := dec_enc x 40 [] (by omega) (fit_of x hs)
  rw [List.append_nil] at hde
  have h1 := put_thing_ok (k := 58) (th := x) (H := H) (by omega) (by omega) (fit_of x hs) (by omega)
  rw [← par_cl] at h1
  have h1 : (Pn 60).cl 4 [x.e] H = .ok (.tup (nats (enc x))) H := h1
  have h2 := thing_okN (k := 58) (at0 := 0) (row := enc x) (l := []) (x := x) (H := H) (by omega) (by omega) (by omega) (by rw [List.drop_zero]; exact hde) hS
  have h2 : (Pn 60).cl 6 [.tup (nats (enc x)), .int 0] H = .ok (.tup [x.e, .int ((enc x).length : Int)]) H := h2
  have h3 := thing_okN (k := 58) (at0 := (enc x).length) (row := enc x ++ enc x) (l := []) (x := x) (H := H) (by omega) (by rw [List.length_append]; omega) (by rw [List.length_append]; omega) (by rw [List.drop_left]; exact hde) (Sh_enc x _ hs hS)
  rw [show (enc x ++ enc x).length - ([] : List Nat).length = 2 * (enc x).length by rw [List.length_append]; simp; omega] at h3
  have h3 : (Pn 60).cl 6 [.tup (nats (enc x ++ enc x)), .int ((enc x).length : Int)] H = .ok (.tup [x.e, .int ((2 * (enc x).length : Nat) : Int)]) H := h3
  have a1 : binop .add (.tup (nats (enc x))) (.tup (nats (enc x))) = some (.tup (nats (enc x ++ enc x))) := by
    rw [o_addT (by rw [nats_len]; omega), ← nats_app]
  have m : mulOk 2 ((enc x).length : Int) = true := mulOk_l (by decide)
  have e2 : (2 : Int) * ((enc x).length : Int) = ((2 * (enc x).length : Nat) : Int) := by omega
  have n1 := ne_nats (l := enc x)
  have n2 := ne_pair (x := x) (n := ((enc x).length : Int)) (by omega)
  have n3 := ne_pair (x := x) (n := ((2 * (enc x).length : Nat) : Int)) (by omega)
  have g2 : ∀ x y : E, [x, y].length ≤ sizeLine := fun x y => le_line (by simp)
  rw [r16_at3]
  refine Good_seq (ρ := [s0, some (.ref 2), some (x.e), some (y.e), some (.tup (nats (enc x))), s5, s6, s7, s8, s9, s10, s11, s12, s13, s14, s15, s16, s17, s18, s19, s20, s21]) (H := H) ?_ (t4 hs hd gs gd hT)
  simp -implicitDefEqProofs only [Stms.ev, Stm.ev, Ex.ev, Ex.evT, Exs.ev, Exs.evAnd, Exs.evOr, Exs.evTAnd, Exs.evTOr, Ox.ev, Ox.evT, Lx.ev, It.ev, v_c, v_bin, v_cmp, v_bl, v_isN, v_ntN, v_not, v_tru, v_asB, v_and, v_or, v_if, v_tup, v_nil, v_cons, v_sub, v_onone, v_osome, v_slice, v_call, v_glb, v_ofE, v_disp, v_cat, v_bi1, v_biL, v_isi, v_inS, v_sidx, v_join, v_subL, v_new, v_dct, v_lenSet, v_yes, v_itL, v_itA, v_itR1, v_itR2, v_lc, q_v_asg, q_v_par, q_v_setD, q_v_expr, q_v_app, q_v_if, q_v_for, q_v_ret, o_add, o_sub, c_lt, c_le, c_gt, c_ge, a_add, R.bind_ok, R.bind_ex, R.bind_bad, R.st_ok, R.st_ex, R.st_bad, RS.seq_nx, RS.seq_rt, RS.seq_ex, RS.seq_bk, RS.seq_ct, RS.seq_bad, optR_some, optR_none, Tg.set, setAll, asB, Lt.truthy, isNon, biLE, getL_tmp, getM_tmp, Option.isSome_some, reduceIte, if_true, if_false, Bool.false_eq_true, Option.map_some, w0, w1, w2, w3, w4, w5, w6, w7, w8, w9, w10, w11, w12, w13, w14, w15, w16, w17, w18, w19, w20, w21, w22, w23, w24, x0, x1, x2, x3, x4, x5, x6, x7, x8, x9, x10, x11, x12, x13, x14, x15, x16, x17, x18, x19, x20, x21, x22, x23, x24, z0, z1, z2, z3, z4, z5, z6, z7, z8, z9, z10, z11, z12, z13, z14, z15, z16, z17, z18, z19, z20, z21, z22, z23, z24, y0, y1, y2, y3, y4, y5, y6, y7, y8, y9, y10, y11, y12, y13, y14, y15, y16, y17, y18, y19, y20, y21, y22, y23, y24, c16_3, h1, n1, h2, len_nats, bi1E, g2, n2, a1, h3, o_mul m, e2, n3]
theorem t2 (hs : x.sm) (hd : x.dep ≤ 4) (gs : y.sm) (gd : y.dep ≤ 4) (hT : IsT 2 H) : Good (r16_2.ev (Pn 60) [s0, some (.ref 2), some (x.e), some (y.e), s4, s5, s6, s7, s8, s9, s10, s11, s12, s13, s14, s15, s16, s17, s18, s19, s20, s21] H) := by
  have g188 := enc_188 hs hd
  have h1 := law_bytes_ok 4 x 59 H hd (by omega) (fit_of x hs) (by omega)
  rw [← par_cl] at h1
  have h1 : (Pn 60).cl 15 [x.e] H = .ok (.tup (nats (enc x))) H := h1
  rw [r16_at2]
  refine Good_seq (ρ := [s0, some (.ref 2), some (x.e), some (y.e), some (.tup (nats (enc x))), s5, s6, s7, s8, s9, s10, s11, s12, s13, s14, s15, s16, s17, s18, s19, s20, s21]) (H := H) ?_ (t3 hs hd gs gd hT)
  simp -implicitDefEqProofs only [Stms.ev, Stm.ev, Ex.ev, Ex.evT, Exs.ev, Exs.evAnd, Exs.evOr, Exs.evTAnd, Exs.evTOr, Ox.ev, Ox.evT, Lx.ev, It.ev, v_c, v_bin, v_cmp, v_bl, v_isN, v_ntN, v_not, v_tru, v_asB, v_and, v_or, v_if, v_tup, v_nil, v_cons, v_sub, v_onone, v_osome, v_slice, v_call, v_glb, v_ofE, v_disp, v_cat, v_bi1, v_biL, v_isi, v_inS, v_sidx, v_join, v_subL, v_new, v_dct, v_lenSet, v_yes, v_itL, v_itA, v_itR1, v_itR2, v_lc, q_v_asg, q_v_par, q_v_setD, q_v_expr, q_v_app, q_v_if, q_v_for, q_v_ret, o_add, o_sub, c_lt, c_le, c_gt, c_ge, a_add, R.bind_ok, R.bind_ex, R.bind_bad, R.st_ok, R.st_ex, R.st_bad, RS.seq_nx, RS.seq_rt, RS.seq_ex, RS.seq_bk, RS.seq_ct, RS.seq_bad, optR_some, optR_none, Tg.set, setAll, asB, Lt.truthy, isNon, biLE, getL_tmp, getM_tmp, Option.isSome_some, reduceIte, if_true, if_false, Bool.false_eq_true, Option.map_some, w0, w1, w2, w3, w4, w5, w6, w7, w8, w9, w10, w11, w12, w13, w14, w15, w16, w17, w18, w19, w20, w21, w22, w23, w24, x0, x1, x2, x3, x4, x5, x6, x7, x8, x9, x10, x11, x12, x13, x14, x15, x16, x17, x18, x19, x20, x21, x22, x23, x24, z0, z1, z2, z3, z4, z5, z6, z7, z8, z9, z10, z11, z12, z13, z14, z15, z16, z17, z18, z19, z20, z21, z22, z23, z24, y0, y1, y2, y3, y4, y5, y6, y7, y8, y9, y10, y11, y12, y13, y14, y15, y16, y17, y18, y19, y20, y21, y22, y23, y24, c16_2, h1]
theorem t1 (hT : IsT 2 H) : Good (r16_1.ev (Pn 60) [s0, some (.ref 2), s2, s3, s4, s5, s6, s7, s8, s9, s10, s11, s12, s13, s14, s15, s16, s17, s18, s19, s20, s21] H) := by
  obtain ⟨x, H1, h1, p1, hd, hs⟩ := law_thing_ok 3 2 59 H hT (by omega)
  obtain ⟨y, H2, h2, p2, gd, gs⟩ := law_thing_ok 2 2 59 H1 p1.1 (by omega)
  rw [← par_cl] at h1 h2
  have h1 : (Pn 60).cl 13 [.ref 2, .int 3] H = .ok x.e H1 := h1
  have h2 : (Pn 60).cl 13 [.ref 2, .int 2] H1 = .ok y.e H2 := h2
  rw [r16_at1]
  refine Good_seq (ρ := [s0, some (.ref 2), some (x.e), some (y.e), s4, s5, s6, s7, s8, s9, s10, s11, s12, s13, s14, s15, s16, s17, s18, s19, s20, s21]) (H := H2) ?_ (t2 hs hd gs (by omega) p2.1)
  simp -implicitDefEqProofs only [Stms.ev, Stm.ev, Ex.ev, Ex.evT, Exs.ev, Exs.evAnd, Exs.evOr, Exs.evTAnd, Exs.evTOr, Ox.ev, Ox.evT, Lx.ev, It.ev, v_c, v_bin, v_cmp, v_bl, v_isN, v_ntN, v_not, v_tru, v_asB, v_and, v_or, v_if, v_tup, v_nil, v_cons, v_sub, v_onone, v_osome, v_slice, v_call, v_glb, v_ofE, v_disp, v_cat, v_bi1, v_biL, v_isi, v_inS, v_sidx, v_join, v_subL, v_new, v_dct, v_lenSet, v_yes, v_itL, v_itA, v_itR1, v_itR2, v_lc, q_v_asg, q_v_par, q_v_setD, q_v_expr, q_v_app, q_v_if, q_v_for, q_v_ret, o_add, o_sub, c_lt, c_le, c_gt, c_ge, a_add, R.bind_ok, R.bind_ex, R.bind_bad, R.st_ok, R.st_ex, R.st_bad, RS.seq_nx, RS.seq_rt, RS.seq_ex, RS.seq_bk, RS.seq_ct, RS.seq_bad, optR_some, optR_none, Tg.set, setAll, asB, Lt.truthy, isNon, biLE, getL_tmp, getM_tmp, Option.isSome_some, reduceIte, if_true, if_false, Bool.false_eq_true, Option.map_some, w0, w1, w2, w3, w4, w5, w6, w7, w8, w9, w10, w11, w12, w13, w14, w15, w16, w17, w18, w19, w20, w21, w22, w23, w24, x0, x1, x2, x3, x4, x5, x6, x7, x8, x9, x10, x11, x12, x13, x14, x15, x16, x17, x18, x19, x20, x21, x22, x23, x24, z0, z1, z2, z3, z4, z5, z6, z7, z8, z9, z10, z11, z12, z13, z14, z15, z16, z17, z18, z19, z20, z21, z22, z23, z24, y0, y1, y2, y3, y4, y5, y6, y7, y8, y9, y10, y11, y12, y13, y14, y15, y16, y17, y18, y19, y20, y21, y22, y23, y24, c16_1, h1, h2]
end
theorem law_ok {ns : List Int} (hn : ns.length ≤ 63) : ∃ G', Lt.callF K01.G.T K01.G.gl K01.G.rf K01.G.wf (60 + 1) 16 [.ref 0] [.rol (ns.map Lt.E.int)] = .ok (.bl true) G' := by
  obtain ⟨H2, h, hT, _⟩ := law_tape_ok (k := 59) hn
  rw [← par_cl] at h
  have h : (Pn 60).cl 11 [.ref 0] [.rol (ns.map E.int)] = .ok (.ref 2) H2 := h
  have hg : Good (r16_0.ev (Pn 60) [some (.ref 0), none, none, none, none, none, none, none, none, none, none, none, none, none, none, none, none, none, none, none, none, none] [.rol (ns.map E.int)]) := by
    rw [r16_at0]
    refine Good_seq (ρ := [some (.ref 0), some (.ref 2), none, none, none, none, none, none, none, none, none, none, none, none, none, none, none, none, none, none, none, none]) (H := H2) ?_ (t1 hT)
    simp -implicitDefEqProofs only [Stms.ev, Stm.ev, Ex.ev, Ex.evT, Exs.ev, Exs.evAnd, Exs.evOr, Exs.evTAnd, Exs.evTOr, Ox.ev, Ox.evT, Lx.ev, It.ev, v_c, v_bin, v_cmp, v_bl, v_isN, v_ntN, v_not, v_tru, v_asB, v_and, v_or, v_if, v_tup, v_nil, v_cons, v_sub, v_onone, v_osome, v_slice, v_call, v_glb, v_ofE, v_disp, v_cat, v_bi1, v_biL, v_isi, v_inS, v_sidx, v_join, v_subL, v_new, v_dct, v_lenSet, v_yes, v_itL, v_itA, v_itR1, v_itR2, v_lc, q_v_asg, q_v_par, q_v_setD, q_v_expr, q_v_app, q_v_if, q_v_for, q_v_ret, o_add, o_sub, c_lt, c_le, c_gt, c_ge, a_add, R.bind_ok, R.bind_ex, R.bind_bad, R.st_ok, R.st_ex, R.st_bad, RS.seq_nx, RS.seq_rt, RS.seq_ex, RS.seq_bk, RS.seq_ct, RS.seq_bad, optR_some, optR_none, Tg.set, setAll, asB, Lt.truthy, isNon, biLE, getL_tmp, getM_tmp, Option.isSome_some, reduceIte, if_true, if_false, Bool.false_eq_true, Option.map_some, w0, w1, w2, w3, w4, w5, w6, w7, w8, w9, w10, w11, w12, w13, w14, w15, w16, w17, w18, w19, w20, w21, w22, w23, w24, x0, x1, x2, x3, x4, x5, x6, x7, x8, x9, x10, x11, x12, x13, x14, x15, x16, x17, x18, x19, x20, x21, x22, x23, x24, z0, z1, z2, z3, z4, z5, z6, z7, z8, z9, z10, z11, z12, z13, z14, z15, z16, z17, z18, z19, z20, z21, z22, z23, z24, y0, y1, y2, y3, y4, y5, y6, y7, y8, y9, y10, y11, y12, y13, y14, y15, y16, y17, y18, y19, y20, y21, y22, y23, y24, c16_0, h]
  obtain ⟨G', hG⟩ := hg
  refine ⟨G', ?_⟩
  show cl (60 + 1) 16 _ _ = _
  rw [cl_succ (fn := f16) rfl rfl]
  show endR false _ (b16.ev (Pn 60) [some (.ref 0), none, none, none, none, none, none, none, none, none, none, none, none, none, none, none, none, none, none, none, none, none] [.rol (ns.map E.int)]) = _
  rw [r16_eq, hG]
  rfl
end K01
end
set_option Elab.async false
theorem PySem.Challenge.cw_nothinglost_k01_bytes_and_their_checks_holds : PySem.Challenge.rw_nothinglost_k01_bytes_and_their_checks.Holds := by
  exact K01.holds_of fun ns h _ => K01.law_ok h
